import PyProof.Rows.All
import PyProof.ListNew
import PyProof.StrCalls2
import PyProof.StrCalls3
import KE.BytesMake
import KE.KBytesCut
import Wide.FinOn
import OpenK.AllK
import Wide.All
import Lean
import PySem.Challenge.RW_pc0182_01
set_option Elab.async false
set_option linter.all false
set_option bootstrap.genMatcherCode false
set_option genSizeOf false
set_option genInjectivity false
set_option maxRecDepth 1000000
set_option maxHeartbeats 0
set_option backward.match.sparseCases false
set_option tactic.hygienic false
open Array renaming any_toList→mT,eq_empty_of_size_eq_zero→BD,getElem?_eq_getElem→qq,getElem?_eq_none→tO,getElem?_eq_some_iff→pX,getElem?_toList→cU,isEmpty_iff→Ad,length_toList→bY,mem_toList_iff→eH,toArray_toList→nS,toList_append→iG,toList_map→Xi,toList_push→Ab
open Bool renaming and_eq_true→aq,and_eq_true_iff→ig,and_false→lV,eq_iff_iff→hU,false→ai,false_and→vS,false_eq_true→yR,false_ne_true→aC,false_or→xy,noConfusion→BC,not_eq_true'→bc,or_eq_false_iff→vR,or_eq_true→hP,true→am,true_and→J9
open Classical renaming byContradiction→Jf,em→NU,not_not→Aa
open Int renaming add_assoc→J8,add_le_add→GQ,add_zero→dT,eq_ofNat_of_zero_le→Mf,le_max_right→Xh,le_of_eq→jV,le_of_not_gt→Xg,le_refl→cy,le_trans→f9,lt_of_le_of_lt→Uc,lt_of_not_ge→Xf,max_eq_right→BB,mul_one→Qg,mul_zero→tN,natCast_mul→DS,natCast_nonneg→bN,ne_of_gt→NT,not_le→Ub,ofNat_le→lU,ofNat_lt→f8,sub_eq_zero→DQ,toNat_natCast→z9,toNat_of_nonneg→oI,zero_add→tM,zero_mul→tJ
open List renaming all_cons→ju,all_eq_true→aS,all_map→lT,any_cons→qU,any_eq_false→jA,any_eq_true→mS,any_map→tI,append_assoc→a7,append_nil→bz,contains_eq_any_beq→J7,contains_iff_mem→uw,drop_eq_getElem_cons→dS,drop_eq_nil_of_le→NS,drop_of_length_le→eN,drop_zero→GP,elem_iff→gI,filter→Qf,filterMap_cons→oH,find?_cons→DP,findIdx?_cons→yQ,flatMap_cons→Wg,flatten_cons→qF,forIn_cons→kO,getD_eq_getElem?_getD→GO,getElem?_append_left→bF,getElem?_append_right→cF,getElem?_concat_length→bD,getElem?_drop→T9,getElem?_eq_getElem→aI,getElem?_eq_none→dF,getElem?_eq_none_iff→Je,getElem?_eq_some_iff→aY,getElem?_inj→Wf,getElem?_map→dL,getElem?_range→S6,getElem?_set→z0,getElem?_set_ne→fC,getElem?_set_self→fN,getElem?_take→T8,getElem?_zip_eq_some→Jd,getElem_mem→dh,isEmpty_iff→dJ,length→Y7,length_append→au,length_cons→bv,length_drop→bM,length_eq_one_iff→NR,length_eq_zero_iff→Me,length_map→aH,length_replicate→mL,length_reverse→iF,length_set→bC,length_take→bE,lookup→jK,lookup_cons→fY,map_append→fj,map_congr_left→S5,map_cons→im,map_drop→J6,map_map→pB,map_nil→zZ,map_reverse→Bz,map_tail→J5,map_take→qS,mem_append→dH,mem_append_left→ie,mem_append_right→dC,mem_cons→aZ,mem_iff_getElem→Qe,mem_map→NQ,mem_map_of_mem→S4,mem_of_find?_eq_some→qp,mem_of_getElem?→bI,mem_of_mem_take→Qd,mem_replicate→yP,mem_reverse→Xe,mem_singleton→ao,nil_append→oE,nodup_append→zY,nodup_cons→jm,not_mem_nil→fX,of_mem_zip→DO,pairwise_map→We,range→tH,replicate→cE,replicate_succ→oG,reverse_cons→qE,set_append_right→uu,take_add_one→zX,take_append→By,take_append_drop→cI,take_append_of_le_length→nR,take_length→Xd,take_nil→kH,take_of_length_le→bK,take_sublist→Wd,take_succ_cons→ef,take_zero→pW,zip_append→jk,zip_cons_cons→kS,zip_nil_right→yO
open Nat renaming add_comm→tG,add_le_add→gS,add_sub_cancel_left→cV,beq→gW,blt→jg,eq_of_beq_eq_true→eC,le_add_right→cH,le_of_ble_eq_true→ac,le_of_eq→lS,le_of_lt→fh,le_of_lt_succ→zW,le_of_not_lt→fB,le_of_sub_eq_zero→P5,le_refl→aE,le_succ→dR,le_succ_of_le→zV,le_trans→az,log2_lt→Qc,lt_irrefl→kF,lt_of_le_of_lt→cR,lt_of_le_of_ne→pV,lt_of_lt_of_eq→T7,lt_of_lt_of_le→cQ,lt_of_not_le→gM,lt_of_sub_eq_succ→P4,lt_of_succ_lt_succ→tF,lt_succ_of_le→zU,lt_succ_of_lt→Wc,lt_succ_self→dc,lt_trans→jU,min_eq_left→eI,min_eq_right→mR,min_le_left→fP,min_le_right→d9,mod_eq_of_lt→Xc,mul_le_mul_left→kc,ne_of_gt→fM,ne_of_lt→cr,not_lt→pU,not_lt_zero→oD,sub_add_cancel→T6,sub_eq_zero_of_le→P3,sub_le→jJ,sub_lt_sub_left→oF,sub_ne_zero_of_lt→P2,sub_self→je,succ→vP,succ_le_succ→mQ,succ_ne_self→Xb,succ_pos→NP,toUInt8→iZ,toUInt8_eq→pT,zero_add→tE,zero_le→bU,zero_lt_one→tS
open Option renaming bind_eq_some_iff→dI,bind_some→iJ,isNone_iff_eq_none→hJ,isSome_iff_exists→d8,map_eq_some_iff→bw,map_some→oB,none→ax,some→ae
open PySem renaming Addr→bk,Arguments→vO,Around→cG,BindsTo→GN,BoolOp→Qb,Builtin→sL,CmpOp→GL,Code→T5,Comprehension→jN,DictEntry→dX,Env→rP,Expr→be,Flow→Bw,FuncData→gQ,Heap→cW,Model→lP,NameKind→vN,Obj→A2,Operator→GK,OsState→jh,Params→W9,Pos→gz,Program→dZ,Result→lH,Scope→jY,Sem→nE,Shared→aA,Stmt→gZ,Str→bR,Value→ay,World→dj,aRefKeyMayBeTheName_at→W6,argsOk→W5,arm_assign_Name→xx,arm_evalEach_cons→fT,arm_evalEach_nil→pj,arm_eval_Name→jM,arm_exec_Assign→mG,arm_exec_For→W4,arm_exec_Return→NM,arm_execs_cons→ic,arm_execs_nil→C3,assign→ur,assignEach→xk,assignInOrder→CZ,backTo→P7,bindName→nP,bm_if_false→Ma,builtinLookup_eq_fast→cK,builtinsNs→rO,call→cX,callEnv→nO,callWith→vM,call_meets→rN,cameBackBy→pi,checkBuiltinCall→ph,classAt→AZ,closureFor→P6,codeAny→tR,codeAny_of_tree→xw,compareChain→W3,compareOp→vL,entryFor→rM,entryFor_of_tree→vK,eval→zN,exec→GH,execs→nN,getItem→xu,holding→jE,isSubtype→V7,isSubtype_type→rK,leaving→GF,leftWithCleanup_false_of_bare→L8,letOwnedTupleGo→mF,mainGlobals→eQ,markedEach→DJ,model→bP,noteFrame→jL,operate→PX,outcomeOf→V6,plainId_quiet→TV,raiseStmt→V5,rawInt→DI,recursionLimit→nM,signature?_of→CY,sizeLine→iI,sizeLine_eq→fp,spliced→pF,standAt→iH,starEach→rJ,strKind→xt,swappedStores→uq,swapsWithSole→CX,sysModules→rI,table→GD,theTreesLotGoes→gK,treeTable→ry,truthy→jS,typeIs_str→rH,typeLookup→jD,typeLookup_type→eT,wpAny→cu,wpAny_bind→aB,wpAny_call_entry→vJ,wpAny_comprehension_free→TU,wpAny_field→jz,wpAny_holding→CV,wpAny_list_append_plain→V4,wpAny_load→mI,wpAny_loadName_local→kB,wpAny_loadPart→rG,wpAny_lookBehind→vI,wpAny_mkText→W2,wpAny_mono→iX,wpAny_newObj_type→tQ,wpAny_noteFrame_againW→W1,wpAny_of_eq→jy,wpAny_pure→aP,wpAny_pyNext_list_item→WZ,wpAny_specialOf→iE,wpAny_standAt→fA,wpAny_unpackItems_tuple→V2,wpAny_update→WY,wpAt_of_wpAny→SY
open PySem.Builtin.Bytes renaming bindOptional→Qa,buffer?→yN,byteValue→Wb,exported→Xa,exportsOf→Wa,ownRelease→us,slotIsOwn→V9
open PySem.Builtin.List renaming listFitsIndex→P9,listTooLong→lQ
open PySem.Builtin.Str renaming partsBetween→qR,strKind→lI,strSliceIndices→PZ
open PySem.F renaming args_str_split_2→J3,args_tuple_contains_2→C4,entry_str_split→Mc,entry_tuple_contains→DM,excBase_Exception→Jc,plainAttrs_list→kT,plainAttrs_str→NN,slot_dict_get→PY,slot_list_extend→J2,slot_list_index→Mb,slot_list_reverse→Jb,slot_str_encode→V8,slot_str_getitem→J1,slot_str_split→tD,slot_tuple_contains→FF
open PySem.Heap renaming SameBut→kR,get?_push_of_some→aN,get?_push_size→bJ,get?_update_other→nQ,get?_update_self→eF,lt_size→hB,size_push→gA
open PySem.NameKind renaming cell→T4,free→T3
open PySem.W renaming Frag→pq,Looks→kz,SharedT→eU,behindTheImports→gw,boot_heap→jw,doneF→FE,emptyDict→sK,findIn→tC,instObj→vp,keepIn→Bt,looks_keep→TY,openGood→TW,topFrame→ij,typeIs_bytes→jT
open PySem.W.Fast renaming te10295753902157049106→S3,te14364793385576792824→SZ,tw10295753902157049106→kC,tw14364793385576792824→gH
open _root_ renaming Array→eZ,Bool→aD,Decidable→Mg,DecidableEq→vQ,False→bA,Int→aF,List→ag,Nat→D,Option→av,String→fK,True→JY,UInt8→lO,Unit→xj,absurd→cq,beq_eq_false_iff_ne→aK,beq_iff_eq→a6,beq_self_eq_true→fW,bne_iff_ne→tB,bne_self_eq_false→qD,cond→gj,congrArg→aL,decide_eq_false→aO,decide_eq_false_iff_not→L7,decide_eq_true→aR,decide_eq_true_eq→bp,decide_eq_true_iff→fw,if_neg→bG,if_pos→cw,of_decide_eq_false→TS,of_decide_eq_true→aa,or_false→vH,propext→zM,rfl→J,Char.toNat→Ud,Eq.symm→aQ,Exists.elim→a8,ForInStep.yield→tT,Int.ofNat.inj→nF,List.Pairwise.imp→Wh,List.Sublist.nodup→Ua,List.cons.inj→qT,Nat.succ.inj→lR,Ne.symm→pr,Option.some.inj→aT,Option.some.injEq→zT,Prod.mk.injEq→kD,PySem.Around.frames_deeper→zS,PySem.Around.under_plainId→zR,PySem.Bind.madeBy→zQ,PySem.Builtin.divisionGoesByPylong→NO,PySem.Calls.loadGlobal_global→P8,PySem.Challenge.rw_pc0182_01→eE,PySem.Code.quiet_builtin→DN,PySem.DictEntry.refKey→J4,PySem.ExcName.means→pH,PySem.Flow.next→J0,PySem.Heap.IsSliceOf.new→DL,PySem.Heap.SameBut.update→gP,PySem.Obj.mapBytearray→jj,PySem.Obj.putName→zP,PySem.PyData.keyHash→ji,PySem.Sem.wp_mono→zO,PySem.SeqAt.tuple_containsAt→W8,PySem.Str.ofString→bZ,PySem.StrLaws.sliceText→GJ,PySem.Value.builtin→T2,PySem.Value.ref→JZ,PySem.W.FB.args_bytes_contains_2→W7,PySem.W.FB.slot_bytes_getitem→pG,PySem.W.KBy.picked→GI,PySem.W.Looks.here→TZ,UInt8.toNat→fz,UInt8.toNat_ofNat'→pS
noncomputable section
set_option tactic.hygienic true
section
namespace Mi
@[elab_as_elim] theorem I{α:Sort u}{a b:α}{motive:α->Prop}(h:a=b)(e:motive b):motive a:=h▸e
@[elab_as_elim] theorem sb{α:Sort u}{a b:α}{motive:α->Prop}(h:a=b)(e:motive a):motive b:=h▸e
@[elab_as_elim] theorem ou{α:Sort z}(x:α){f:α}{P:Prop}{motive:α->Prop}(h:x=f/\P)(k:P->motive f):motive x:=by
 obtain⟨rfl,a⟩:=h;exact k a
@[elab_as_elim] theorem wP{α:Sort z}(x:α){f:α}{P:Prop}{motive:α->Prop}(h:f=x/\P)(k:P->motive f):motive x:=by
 obtain⟨rfl,a⟩:=h;exact k a
@[elab_as_elim] theorem gF{α:Sort z}(x:α){A:Sort u}{f:A->α}{motive:α->Prop}(h:∃a,x=f a)(k:∀a,motive (f a)):motive x:=by
 obtain⟨a,rfl⟩:=h;exact k a
@[elab_as_elim] theorem Sq{α:Sort z}(x:α){A:Sort u}{f:A->α}{motive:α->Prop}(h:∃a,f a=x)(k:∀a,motive (f a)):motive x:=by
 obtain⟨a,rfl⟩:=h;exact k a
@[elab_as_elim] theorem iu{α:Sort z}(x:α){A:Sort u}{f:A->α}{P:A->Prop}{motive:α->Prop}(h:∃a,x=f a/\P a)(k:∀a,P a->motive (f a)):motive x:=by
 obtain⟨a,rfl,b⟩:=h;exact k a b
@[elab_as_elim] theorem M7{α:Sort z}(x:α){A:Sort u}{f:A->α}{P:A->Prop}{motive:α->Prop}(h:∃a,P a/\x=f a)(k:∀a,P a->motive (f a)):motive x:=by
 obtain⟨a,b,rfl⟩:=h;exact k a b
@[elab_as_elim] theorem sr{α:Sort z}(x:α){A:Sort u}{f:A->α}{P:A->Prop}{motive:α->Prop}(h:∃a,P a/\f a=x)(k:∀a,P a->motive (f a)):motive x:=by
 obtain⟨a,b,rfl⟩:=h;exact k a b
@[elab_as_elim] theorem hV{α:Sort z}(x:α){A:Sort u}{B:Sort v}{f:A->B->α}{P:A->B->Prop}{motive:α->Prop}(h:∃a,∃b,x=f a b/\P a b)(k:∀a b,P a b->motive (f a b)):motive x:=by
 obtain⟨a,b,rfl,c⟩:=h;exact k a b c
@[elab_as_elim] theorem zj{α:Sort z}(x:α){A:Sort u}{B:Sort v}{C:Sort w}{f:A->B->C->α}{P:A->B->C->Prop}{motive:α->Prop}(h:∃a,∃b,∃c,x=f a b c/\P a b c)(k:∀a b c,P a b c->motive (f a b c)):motive x:=by
 obtain⟨a,b,c,rfl,d⟩:=h;exact k a b c d
@[elab_as_elim] theorem Sn{α:Sort z}(x:α){A:Sort u}{f:A->α}{P Q:A->Prop}{motive:α->Prop}(h:∃a,P a/\Q a/\f a=x)(k:∀a,P a->Q a->motive (f a)):motive x:=by
 obtain⟨a,c,b,rfl⟩:=h;exact k a c b
@[elab_as_elim] theorem dG{α:Sort u}{c:Prop}{d:Mg c}{a b:α}{motive:α->Prop}(h:c)(k:motive a):motive (@ite α c d a b):=by rw[cw h];exact k
@[elab_as_elim] theorem cM{α:Sort u}{c:Prop}{d:Mg c}{a b:α}{motive:α->Prop}(h:¬c)(k:motive b):motive (@ite α c d a b):=by rw[bG h];exact k
theorem cv{P Q:Prop}{G:Prop}(h:P/\Q)(k:P->Q->G):G:=k h.1 h.2
theorem i7{P Q R:Prop}{G:Prop}(h:P/\Q/\R)(k:P->Q->R->G):G:=k h.1 h.2.1 h.2.2
theorem rQ{P Q R S:Prop}{G:Prop}(h:P/\Q/\R/\S)(k:P->Q->R->S->G):G:=k h.1 h.2.1 h.2.2.1 h.2.2.2
theorem A4{P Q R S T:Prop}{G:Prop}(h:P/\Q/\R/\S/\T)(k:P->Q->R->S->T->G):G:=k h.1 h.2.1 h.2.2.1 h.2.2.2.1 h.2.2.2.2
theorem NX{P Q R S T U:Prop}{G:Prop}(h:P/\Q/\R/\S/\T/\U)(k:P->Q->R->S->T->U->G):G:=k h.1 h.2.1 h.2.2.1 h.2.2.2.1 h.2.2.2.2.1 h.2.2.2.2.2
theorem cs{A:Sort u}{P:A->Prop}{G:Prop}(h:∃a,P a)(k:∀a,P a->G):G:=a8 h λa h=>k a h
theorem aM{A:Sort u}{P Q:A->Prop}{G:Prop}(h:∃a,P a/\Q a)(k:∀a,P a->Q a->G):G:=a8 h λa h=>k a h.1 h.2
theorem kh{A:Sort u}{P Q R:A->Prop}{G:Prop}(h:∃a,P a/\Q a/\R a)(k:∀a,P a->Q a->R a->G):G:=a8 h λa h=>k a h.1 h.2.1 h.2.2
theorem Xl{A:Sort u}{P Q R S:A->Prop}{G:Prop}(h:∃a,P a/\Q a/\R a/\S a)(k:∀a,P a->Q a->R a->S a->G):G:=a8 h λa h=>k a h.1 h.2.1 h.2.2.1 h.2.2.2
theorem NW{A:Sort u}{P Q R S T:A->Prop}{G:Prop}(h:∃a,P a/\Q a/\R a/\S a/\T a)(k:∀a,P a->Q a->R a->S a->T a->G):G:=a8 h λa h=>k a h.1 h.2.1 h.2.2.1 h.2.2.2.1 h.2.2.2.2
theorem Mm{A:Sort u}{B:Sort v}{P:A->B->Prop}{G:Prop}(h:∃a,∃b,P a b)(k:∀a b,P a b->G):G:=a8 h λa h=>a8 h λb h=>k a b h
theorem cY{A:Sort u}{B:Sort v}{P Q:A->B->Prop}{G:Prop}(h:∃a,∃b,P a b/\Q a b)(k:∀a b,P a b->Q a b->G):G:=a8 h λa h=>a8 h λb h=>k a b h.1 h.2
theorem pC{A:Sort u}{B:Sort v}{P Q R:A->B->Prop}{G:Prop}(h:∃a,∃b,P a b/\Q a b/\R a b)(k:∀a b,P a b->Q a b->R a b->G):G:=a8 h λa h=>a8 h λb h=>k a b h.1 h.2.1 h.2.2
theorem uS{A:Sort u}{B:Sort v}{P Q R S:A->B->Prop}{G:Prop}(h:∃a,∃b,P a b/\Q a b/\R a b/\S a b)(k:∀a b,P a b->Q a b->R a b->S a b->G):G:=a8 h λa h=>a8 h λb h=>k a b h.1 h.2.1 h.2.2.1 h.2.2.2
theorem wY{A:Sort u}{B:Sort v}{P Q R S T:A->B->Prop}{G:Prop}(h:∃a,∃b,P a b/\Q a b/\R a b/\S a b/\T a b)(k:∀a b,P a b->Q a b->R a b->S a b->T a b->G):G:=a8 h λa h=>a8 h λb h=>k a b h.1 h.2.1 h.2.2.1 h.2.2.2.1 h.2.2.2.2
theorem Wi{A:Sort u}{B:Sort v}{C:Sort w}{P:A->B->C->Prop}{G:Prop}(h:∃a,∃b,∃c,P a b c)(k:∀a b c,P a b c->G):G:=a8 h λa h=>a8 h λb h=>a8 h λc h=>k a b c h
theorem wW{A:Sort u}{B:Sort v}{C:Sort w}{P Q:A->B->C->Prop}{G:Prop}(h:∃a,∃b,∃c,P a b c/\Q a b c)(k:∀a b c,P a b c->Q a b c->G):G:=a8 h λa h=>a8 h λb h=>a8 h λc h=>k a b c h.1 h.2
theorem GW{A:Sort u}{B:Sort v}{C:Sort w}{P Q R:A->B->C->Prop}{G:Prop}(h:∃a,∃b,∃c,P a b c/\Q a b c/\R a b c)(k:∀a b c,P a b c->Q a b c->R a b c->G):G:=a8 h λa h=>a8 h λb h=>a8 h λc h=>k a b c h.1 h.2.1 h.2.2
theorem DU{A:Sort u}{B:Sort v}{C:Sort w}{P Q R S:A->B->C->Prop}{G:Prop}(h:∃a,∃b,∃c,P a b c/\Q a b c/\R a b c/\S a b c)(k:∀a b c,P a b c->Q a b c->R a b c->S a b c->G):G:=a8 h λa h=>a8 h λb h=>a8 h λc h=>k a b c h.1 h.2.1 h.2.2.1 h.2.2.2
theorem Ml{A:Sort u}{B:Sort v}{C:Sort w}{P Q R S T:A->B->C->Prop}{G:Prop}(h:∃a,∃b,∃c,P a b c/\Q a b c/\R a b c/\S a b c/\T a b c)(k:∀a b c,P a b c->Q a b c->R a b c->S a b c->T a b c->G):G:=a8 h λa h=>a8 h λb h=>a8 h λc h=>k a b c h.1 h.2.1 h.2.2.1 h.2.2.2.1 h.2.2.2.2
theorem GV{A:Sort u}{B:Sort v}{C:Sort w}{e:Sort x}{P:A->B->C->e->Prop}{G:Prop}(h:∃a,∃b,∃c,∃d,P a b c d)(k:∀a b c d,P a b c d->G):G:=a8 h λa h=>a8 h λb h=>a8 h λc h=>a8 h λd h=>k a b c d h
theorem Xk{A:Sort u}{B:Sort v}{C:Sort w}{e:Sort x}{P Q:A->B->C->e->Prop}{G:Prop}(h:∃a,∃b,∃c,∃d,P a b c d/\Q a b c d)(k:∀a b c d,P a b c d->Q a b c d->G):G:=a8 h λa h=>a8 h λb h=>a8 h λc h=>a8 h λd h=>k a b c d h.1 h.2
theorem Ql{A:Sort u}{B:Sort v}{C:Sort w}{e:Sort x}{P Q R S:A->B->C->e->Prop}{G:Prop}(h:∃a,∃b,∃c,∃d,P a b c d/\Q a b c d/\R a b c d/\S a b c d)(k:∀a b c d,P a b c d->Q a b c d->R a b c d->S a b c d->G):G:=a8 h λa h=>a8 h λb h=>a8 h λc h=>a8 h λd h=>k a b c d h.1 h.2.1 h.2.2.1 h.2.2.2
theorem Mk{A:Sort u}{B:Sort v}{C:Sort w}{e:Sort x}{P Q R S T:A->B->C->e->Prop}{G:Prop}(h:∃a,∃b,∃c,∃d,P a b c d/\Q a b c d/\R a b c d/\S a b c d/\T a b c d)(k:∀a b c d,P a b c d->Q a b c d->R a b c d->S a b c d->T a b c d->G):G:=a8 h λa h=>a8 h λb h=>a8 h λc h=>a8 h λd h=>k a b c d h.1 h.2.1 h.2.2.1 h.2.2.2.1 h.2.2.2.2
theorem bX{P Q R:Prop}(c:P)(b:Q)(a:R):P/\Q/\R:=⟨c,b,a⟩
theorem qG{P Q R S:Prop}(d:P)(c:Q)(b:R)(a:S):P/\Q/\R/\S:=⟨d,c,b,a⟩
theorem GU{P Q R S T:Prop}(e:P)(d:Q)(c:R)(b:S)(a:T):P/\Q/\R/\S/\T:=⟨e,d,c,b,a⟩
theorem aW{A:Sort u}{P Q:A->Prop}(a:A)(c:P a)(b:Q a):∃a,P a/\Q a:=⟨a,c,b⟩
theorem bQ{A:Sort u}{P Q R:A->Prop}(a:A)(d:P a)(c:Q a)(b:R a):∃a,P a/\Q a/\R a:=⟨a,d,c,b⟩
theorem Mj{A:Sort u}{P Q R S:A->Prop}(a:A)(e:P a)(d:Q a)(c:R a)(b:S a):∃a,P a/\Q a/\R a/\S a:=⟨a,e,d,c,b⟩
theorem Qk{A:Sort u}{P Q R S T:A->Prop}(a:A)(f:P a)(e:Q a)(d:R a)(c:S a)(b:T a):∃a,P a/\Q a/\R a/\S a/\T a:=⟨a,f,e,d,c,b⟩
theorem DT{A:Sort u}{B:Sort v}{P:A->B->Prop}(a:A)(b:B)(c:P a b):∃a,∃b,P a b:=⟨a,b,c⟩
theorem dO{A:Sort u}{B:Sort v}{P Q:A->B->Prop}(a:A)(b:B)(d:P a b)(c:Q a b):∃a,∃b,P a b/\Q a b:=⟨a,b,d,c⟩
theorem nT{A:Sort u}{B:Sort v}{P Q R:A->B->Prop}(a:A)(b:B)(e:P a b)(d:Q a b)(c:R a b):∃a,∃b,P a b/\Q a b/\R a b:=⟨a,b,e,d,c⟩
theorem tV{A:Sort u}{B:Sort v}{P Q R S:A->B->Prop}(a:A)(b:B)(f:P a b)(e:Q a b)(d:R a b)(c:S a b):∃a,∃b,P a b/\Q a b/\R a b/\S a b:=⟨a,b,f,e,d,c⟩
theorem wU{A:Sort u}{B:Sort v}{P Q R S T:A->B->Prop}(a:A)(b:B)(g:P a b)(f:Q a b)(e:R a b)(d:S a b)(c:T a b):∃a,∃b,P a b/\Q a b/\R a b/\S a b/\T a b:=⟨a,b,g,f,e,d,c⟩
theorem Xj{A:Sort u}{B:Sort v}{C:Sort w}{P:A->B->C->Prop}(a:A)(b:B)(c:C)(d:P a b c):∃a,∃b,∃c,P a b c:=⟨a,b,c,d⟩
theorem oK{A:Sort u}{B:Sort v}{C:Sort w}{P Q:A->B->C->Prop}(a:A)(b:B)(c:C)(e:P a b c)(d:Q a b c):∃a,∃b,∃c,P a b c/\Q a b c:=⟨a,b,c,e,d⟩
theorem Mh{A:Sort u}{B:Sort v}{C:Sort w}{P Q R:A->B->C->Prop}(a:A)(b:B)(c:C)(f:P a b c)(e:Q a b c)(d:R a b c):∃a,∃b,∃c,P a b c/\Q a b c/\R a b c:=⟨a,b,c,f,e,d⟩
theorem uR{A:Sort u}{B:Sort v}{C:Sort w}{P Q R S:A->B->C->Prop}(a:A)(b:B)(c:C)(g:P a b c)(f:Q a b c)(e:R a b c)(d:S a b c):∃a,∃b,∃c,P a b c/\Q a b c/\R a b c/\S a b c:=⟨a,b,c,g,f,e,d⟩
theorem tU{A:Sort u}{B:Sort v}{C:Sort w}{P Q R S T:A->B->C->Prop}(a:A)(b:B)(c:C)(h:P a b c)(g:Q a b c)(f:R a b c)(e:S a b c)(d:T a b c):∃a,∃b,∃c,P a b c/\Q a b c/\R a b c/\S a b c/\T a b c:=⟨a,b,c,h,g,f,e,d⟩
theorem Qj{A:Sort u}{B:Sort v}{C:Sort w}{e:Sort x}{P:A->B->C->e->Prop}(a:A)(b:B)(c:C)(d:e)(f:P a b c d):∃a,∃b,∃c,∃d,P a b c d:=⟨a,b,c,d,f⟩
theorem S8{A:Sort u}{B:Sort v}{C:Sort w}{e:Sort x}{P Q:A->B->C->e->Prop}(a:A)(b:B)(c:C)(d:e)(g:P a b c d)(f:Q a b c d):∃a,∃b,∃c,∃d,P a b c d/\Q a b c d:=⟨a,b,c,d,g,f⟩
theorem Qi{A:Sort u}{B:Sort v}{C:Sort w}{e:Sort x}{P Q R:A->B->C->e->Prop}(a:A)(b:B)(c:C)(d:e)(h:P a b c d)(g:Q a b c d)(f:R a b c d):∃a,∃b,∃c,∃d,P a b c d/\Q a b c d/\R a b c d:=⟨a,b,c,d,h,g,f⟩
theorem NV{A:Sort u}{B:Sort v}{C:Sort w}{e:Sort x}{P Q R S:A->B->C->e->Prop}(a:A)(b:B)(c:C)(d:e)(i:P a b c d)(h:Q a b c d)(g:R a b c d)(f:S a b c d):∃a,∃b,∃c,∃d,P a b c d/\Q a b c d/\R a b c d/\S a b c d:=⟨a,b,c,d,i,h,g,f⟩
theorem S7{A:Sort u}{B:Sort v}{C:Sort w}{e:Sort x}{P Q R S T:A->B->C->e->Prop}(a:A)(b:B)(c:C)(d:e)(j:P a b c d)(i:Q a b c d)(h:R a b c d)(g:S a b c d)(f:T a b c d):∃a,∃b,∃c,∃d,P a b c d/\Q a b c d/\R a b c d/\S a b c d/\T a b c d:=⟨a,b,c,d,j,i,h,g,f⟩
end Mi
end
set_option tactic.hygienic false
section
namespace Mi.Q
inductive Sv where
 |n (x:D)
 |i (x:aF)
noncomputable def Sv.z(s:Sv):aF:=Sv.rec (λx=>(x:aF)) (λx=>x) s
noncomputable def Sv.b(s:Sv):aD:=Sv.rec (λa=>am) (λa=>ai) s
noncomputable def ar(d:D)(a b:Sv):Sv:=
 Sv.rec (λa=>Sv.rec (λb=>gj (d.beq 40) (.n (a+b)) (.n (a*b))) (λc=> .n 0) b) (λa=>Sv.rec (λc=> .n 0) (λb=>gj (d.beq 40) (.i (a+b)) (gj (d.beq 41) (.i (a*b)) (.i (a-b)))) b) a
noncomputable def un(d:D)(a:Sv):Sv:=Sv.rec (λa=>gj (d.beq 43) (.i a) (.n (a+1))) (λa=> .i (-a)) a
def pk(d:D)(A B C:Prop):Prop:=gj (d.beq 0) A (gj (d.beq 1) B (gj (d.beq 2) C (gj (d.beq 3) (A->bA) (gj (d.beq 4) (B->bA) (C->bA)))))
def rl(d:D)(a b:Sv):Prop:=
 Sv.rec (λa=>Sv.rec (λb=>pk d (a<=b) (a<b) (a=b)) (λc=>bA) b) (λa=>Sv.rec (λc=>bA) (λb=>pk d (a<=b) (a<b) (a=b)) b) a
noncomputable def Wn(k:D)(s:Sv):Sv:=Sv.rec (λx=> .n (16*x+k)) (λx=> .i x) s
def d7(b:D->ag Sv->Prop)(c:D)(G a:ag Sv):Prop:=gj (jg (c%64) 59) (rl (c%64-53) (a.tail.headD (.n 0)) (a.headD (.n 0))) (bA)
def d6(b:D->ag Sv->Prop)(c:D)(G a:ag Sv):Prop:=gj (jg (c%64) 53) (b (c/64) a) (d7 b c G a)
def d5(b:D->ag Sv->Prop)(c:D)(G a:ag Sv):Prop:=gj (jg (c%64) 51) (rl (c%64-46) (a.tail.headD (.n 0)) (a.headD (.n 0))->b (c/64) []) (d6 b c G a)
def d4(b:D->ag Sv->Prop)(c:D)(G a:ag Sv):Prop:=gj (jg (c%64) 46) (b (c/64) (un (c%64) (a.headD (.n 0))::a.tail)) (d5 b c G a)
def d3(b:D->ag Sv->Prop)(c:D)(G a:ag Sv):Prop:=gj (jg (c%64) 43) (b (c/64) (ar (c%64) (a.tail.headD (.n 0)) (a.headD (.n 0))::a.tail.tail)) (d4 b c G a)
def d2(b:D->ag Sv->Prop)(c:D)(G a:ag Sv):Prop:=gj (jg (c%64) 40) (b (c/64) (Wn (c%64-24) (a.headD (.n 0))::a.tail)) (d3 b c G a)
def d1(b:D->ag Sv->Prop)(c:D)(G a:ag Sv):Prop:=gj (jg (c%64) 24) (b (c/64) (.n (c%64-8)::a)) (d2 b c G a)
def d0(b:D->ag Sv->Prop)(c:D)(G a:ag Sv):Prop:=gj (jg (c%64) 8) (b (c/64) (G.getD (c%64) (.n 0)::a)) (d1 b c G a)
def den(f c:D)(G b:ag Sv):Prop:=
 Nat.rec (motive:=λa=>D->ag Sv->Prop) (λa a=>JY) (λa d c b=>d0 d c G b) f c b
noncomputable abbrev Ln:=ag aF
noncomputable def ev(l a:Ln):aF:=List.rec (motive:=λb=>Ln->aF) (λb=>0) (λk b c a=>k*a.headD 0+c a.tail) l a
noncomputable def pl(l r:Ln):Ln:=List.rec (motive:=λa=>Ln->Ln) (λr=>r) (λk a b r=>(k+r.headD 0)::b r.tail) l r
noncomputable def ti(k:aF)(l:Ln):Ln:=l.map (k*·)
noncomputable def mi(l r:Ln):Ln:=pl l (ti (-1) r)
noncomputable def Tf(d:D):Ln:=Nat.rec [1] (λa l=>0::l) d
noncomputable def Wp(l:Ln)(B:ag aD):aD:=List.rec (motive:=λa=>ag aD->aD) (λa=>am) (λk a b B=>gj (B.headD am) (decide (k<=0)) (decide (k=0))&&b B.tail) l B
noncomputable def ng(l:Ln)(B:ag aD):aD:=decide (l.headD 0<0)&&Wp l.tail B
noncomputable def TK(l:Ln):aD:=l.tail.isEmpty
noncomputable def WU(d:D)(x y:aD×Ln):aD×Ln:=
 (x.1,cond (d.beq 40) (pl x.2 y.2) (cond (d.beq 41) (ti (x.2.headD 0) y.2) (mi x.2 y.2)))
noncomputable def arg(d:D)(x y:aD×Ln):aD:=(x.1==y.1)&&gj (d.beq 40) am (gj (d.beq 41) (TK x.2) (!x.1))
noncomputable def Th(d:D)(x:aD×Ln):aD×Ln:=
 gj x.1 (gj (d.beq 43) (ai,x.2) (am,pl x.2 [1])) (ai,ti (-1) x.2)
noncomputable def Tn(d:D)(l r:Ln):Ln:=
 gj (d.beq 0) (mi r l) (gj (d.beq 1) (pl (mi r l) [-1]) (gj (d.beq 2) (mi r l) (gj (d.beq 3) (pl (mi l r) [-1]) (gj (d.beq 4) (mi l r) []))))
noncomputable def gl(d:D)(m:aF)(l r:Ln):Ln:=
 gj (d.beq 0) (pl (mi l r) [-1]) (gj (d.beq 1) (mi l r) (gj (d.beq 2) [] (gj (d.beq 3) (mi r l) (gj (d.beq 4) (pl (mi r l) [-1]) (ti m (mi r l))))))
noncomputable abbrev tz:aD×Ln:=(am,[])
noncomputable def k7(B:ag aD)(d:D->ag (aD×Ln)->Ln->aD->aF->aD)(c:D)(b:ag (aD×Ln))(a:Ln)(q:aD)(m:aF):aD:=gj (jg (c%64) 59) (((b.tail.headD tz).1==(b.headD tz).1)&&gj (gW (c%64-53) 2) (q&&(pl a (mi (b.headD tz).2 (b.tail.headD tz).2)).all (λk=>decide (k=0))) (ng (pl a (gl (c%64-53) m (b.tail.headD tz).2 (b.headD tz).2)) B)) (ng a B)
noncomputable def k6(B:ag aD)(d:D->ag (aD×Ln)->Ln->aD->aF->aD)(c:D)(b:ag (aD×Ln))(a:Ln)(q:aD)(m:aF):aD:=gj (jg (c%64) 53) (d (c/64) b a q (gj (gW (c%64) 51) (m+1) (-m))) (k7 B d c b a q m)
noncomputable def k5(B:ag aD)(d:D->ag (aD×Ln)->Ln->aD->aF->aD)(c:D)(b:ag (aD×Ln))(a:Ln)(q:aD)(m:aF):aD:=gj (jg (c%64) 51) (((b.tail.headD tz).1==(b.headD tz).1)&&((gW (c%64-46) 2||decide (0<=m))&&d (c/64) [] (pl a (ti m (Tn (c%64-46) (b.tail.headD tz).2 (b.headD tz).2))) (q&&gW (c%64-46) 2) 1)) (k6 B d c b a q m)
noncomputable def k4(B:ag aD)(d:D->ag (aD×Ln)->Ln->aD->aF->aD)(c:D)(b:ag (aD×Ln))(a:Ln)(q:aD)(m:aF):aD:=gj (jg (c%64) 46) (d (c/64) (Th (c%64) (b.headD tz)::b.tail) a q m) (k5 B d c b a q m)
noncomputable def k3(B:ag aD)(d:D->ag (aD×Ln)->Ln->aD->aF->aD)(c:D)(b:ag (aD×Ln))(a:Ln)(q:aD)(m:aF):aD:=gj (jg (c%64) 43) (arg (c%64) (b.tail.headD tz) (b.headD tz)&&d (c/64) (WU (c%64) (b.tail.headD tz) (b.headD tz)::b.tail.tail) a q m) (k4 B d c b a q m)
noncomputable def k2(B:ag aD)(d:D->ag (aD×Ln)->Ln->aD->aF->aD)(c:D)(b:ag (aD×Ln))(a:Ln)(q:aD)(m:aF):aD:=gj (jg (c%64) 40) ((b.headD tz).1&&d (c/64) ((am,pl (ti 16 (b.headD tz).2) [(c%64-24:D)])::b.tail) a q m) (k3 B d c b a q m)
noncomputable def k1(B:ag aD)(d:D->ag (aD×Ln)->Ln->aD->aF->aD)(c:D)(b:ag (aD×Ln))(a:Ln)(q:aD)(m:aF):aD:=gj (jg (c%64) 24) (d (c/64) ((am,[(c%64-8:D)])::b) a q m) (k2 B d c b a q m)
noncomputable def k0(B:ag aD)(d:D->ag (aD×Ln)->Ln->aD->aF->aD)(c:D)(b:ag (aD×Ln))(a:Ln)(q:aD)(m:aF):aD:=gj (jg (c%64) 8) (d (c/64) ((B.getD (c%64) am,Tf (c%64+1))::b) a q m) (k1 B d c b a q m)
noncomputable def nU(B:ag aD)(f c:D)(d:ag (aD×Ln))(a:Ln)(q:aD)(m:aF):aD:=
 Nat.rec (motive:=λb=>D->ag (aD×Ln)->Ln->aD->aF->aD) (λb b b b b=>am) (λb e c d a q m=>k0 B e c d a q m) f c d a q m
theorem Gj(b a:Ln):ev b a=b.headD 0*a.headD 0+ev b.tail a.tail:=by
 induction b with
 |nil=>exact((dT _).trans (tJ (a.headD 0))).symm
 |cons=>rfl
theorem pO(a:Ln):∀b c:Ln,ev (pl a b) c=ev a c+ev b c:=by
 induction a with
 |nil=>exact λb c=>(tM _).symm
 |cons k l d=>
  intro b c;refine(?_ :(k+b.headD 0)*c.headD 0+ev (pl l b.tail) c.tail=k*c.headD 0+ev l c.tail+ev b c);refine I (d ..) (I (Gj b c) (I (Int.add_mul ..) (I (J8 ..) (I (J8 ..) ?_))));rw[Int.add_left_comm (b.headD 0*_)]
theorem se(k:aF)(a:Ln):∀b:Ln,ev (ti k a) b=k*ev a b:=by
 induction a with
 |nil=>exact λb=>(tN k).symm
 |cons a l c=>
  intro b;refine(?_ :k*a*b.headD 0+ev (ti k l) b.tail=k*(a*b.headD 0+ev l b.tail));exact I (c ..) (I (Int.mul_add ..) (I (Int.mul_assoc ..) J))
theorem wK(a b c:Ln):ev (mi a b) c=ev a c-ev b c:=
 (pO a _ c).trans (aL (ev a c+·) ((se _ b c).trans (Int.neg_one_mul _)))
theorem Pq(d:D):∀G:ag Sv,ev (Tf d) (G.map Sv.z)=(G.getD d (.n 0)).z:=by
 induction d with
 |zero=>exact λG=>(dT _).trans ((Int.one_mul _).trans (by cases G<;>rfl))
 |succ d a=>
  intro G;refine(?_ :0*(G.map Sv.z).headD 0+ev (Tf d) (G.map Sv.z).tail=_);refine I (tJ ..) (I (tM ..) (I (aQ J5) (I (a ..) ?_)));cases G<;>rfl
theorem Pj(d:D)(G:ag Sv):(G.map Sv.b).getD d am=(G.getD d (.n 0)).b:=by
 refine I (GO) ?_;refine I (dL) ?_;refine I (GO) ?_;cases G[d]? <;>rfl
theorem O5(l:Ln):∀G:ag Sv,Wp l (G.map Sv.b)=am->ev l (G.map Sv.z)<=0:=by
 induction l with
 |nil=>exact λd d=>cy _
 |cons k l e=>
  intro G h;have h:=ig.mp h;have a:=e G.tail (I J5 h.2);rw[J5] at a;have c:=h.1;refine(?_ :k*(G.map Sv.z).headD 0+ev l (G.map Sv.z).tail<=0+0);refine GQ ?_ a;cases G with
  |nil=>exact jV (tN _)
  |cons x G=>
   cases x with
   |n x=>exact Int.mul_nonpos_of_nonpos_of_nonneg (aa c) (bN x)
   |i x=>exact jV ((aL (·*x) (aa c)).trans (tJ x))
theorem MP{l:Ln}{G:ag Sv}(h:ng l (G.map Sv.b)=am):ev l (1::G.map Sv.z)<0:=by
 have h:=ig.mp h;exact I (Gj ..) (Int.add_neg_of_neg_of_nonpos (Uc (jV (Qg _)) (aa h.1)) (O5 _ _ h.2))
theorem LP(l:Ln):∀a:Ln,l.all (λk=>decide (k=0))=am->ev l a=0:=by
 induction l with
 |nil=>exact λb b=>rfl
 |cons k l c=>
  intro a h;have h:=ig.mp h;refine(?_ :k*a.headD 0+ev l a.tail=0);exact I (aa h.1) (I (c _ h.2) (I (tJ ..) J))
def SR(a:ag aF)(x:aD×Ln)(y:Sv):Prop:=y.b=x.1/\ev x.2 (1::a)=y.z
inductive Fv(xs:ag aF):ag (aD×Ln)->ag Sv->Prop where
 |nil:Fv xs [] []
 |cons {x y l r} (h:SR xs x y) (t:Fv xs l r):Fv xs (x::l) (y::r)
theorem Fv.head{E l r}(h:Fv E l r):SR E (l.headD tz) (r.headD (.n 0)):=by
 induction h with
 |nil=>exact⟨rfl,rfl⟩
 |cons h _=>exact h
theorem Fv.tail{E l r}(h:Fv E l r):Fv E l.tail r.tail:=by
 induction h with
 |nil=>exact .nil
 |cons _ h=>exact h
theorem cc{b:aD}{X Y:aD}{c a:Prop}(h:gj b X Y=am)(f:b=am->X=am->c)(g:Y=am->a):gj b c a:=by
 cases b
 ·exact g h
 ·exact f J h
theorem c3{b:aD}{X Y:Prop}{x y:Ln}{P:Ln->Prop}(h:gj b X Y)(f:X->P x)(g:Y->P y):P (gj b x y):=by
 cases b
 ·exact g h
 ·exact f h
theorem c4{b:aD}{X Y:Prop}{x y:Ln}{P:Ln->Prop}(h:¬gj b X Y)(f:b=am->¬X->P x)(g:¬Y->P y):P (gj b x y):=by
 cases b
 ·exact g h
 ·exact f J h
theorem c5{b:aD}{X Y:aD}{P:Ln->Sv->Prop}{x y:Ln}{c a:Sv}(h:gj b X Y=am)(f:X=am->P x c)(g:Y=am->P y a):P (gj b x y) (gj b c a):=by
 cases b
 ·exact g h
 ·exact f h
theorem yh(k:aF)(a:ag aF):ev [k] (1::a)=k:=(dT _).trans (Qg k)
theorem Ht{l xs:Ln}(h:TK l=am):ev l (1::xs)=l.headD 0:=I (Gj ..) (I (dJ.mp h) ((dT _).trans (Qg _)))
theorem PP{E:ag aF}{d:D}{x y:aD×Ln}{a b:Sv}(h:SR E x a)(g:SR E y b)(e:arg d x y=am):SR E (WU d x y) (ar d a b):=by
 have j:=h.2;have k:=g.2;have e:=ig.mp e;have o:=(h.1.trans (eq_of_beq e.1)).trans g.1.symm;have f:=e.2;rw[<-h.1] at f;refine(?_ :SR E (x.1,cond _ _ _) _);refine I (aQ h.1) ?_;generalize x.2=l at*;generalize y.2=r at*;clear h g e;cases a with
 |n a=>
  cases b with
  |n b=>
   refine c5 (P:=λl v=>SR E (am,l) v) f (λm=>⟨rfl,I (pO ..) (I j (I k J))⟩) λf=>?_;have q:TK l=am:=by
    revert f
    cases d.beq 41
    ·exact nofun
    ·exact id
   have p:cond (d.beq 41) (ti (l.headD 0) r) (mi l r)=ti (l.headD 0) r:=by
    revert f
    cases d.beq 41
    ·exact nofun
    ·exact λm=>rfl
   exact I p (⟨rfl,I (se ..) (I (aQ (Ht (xs:=E) q)) (I j (I k ((DS a b).symm))))⟩)
  |i b=>exact nomatch o
 |i a=>
  cases b with
  |n b=>exact nomatch o
  |i b=>
   refine c5 (P:=λl v=>SR E (ai,l) v) f (λm=>⟨rfl,I (pO ..) (I j (I k J))⟩) λf=>?_;exact c5 (P:=λl v=>SR E (ai,l) v) f (λc=>⟨rfl,I (se ..) (I (aQ (Ht (xs:=E) c)) (I j (I k J)))⟩) λm=>⟨rfl,I (wK ..) (I j (I k J))⟩
theorem N2{E:ag aF}{d:D}{x:aD×Ln}{a:Sv}(h:SR E x a):SR E (Th d x) (un d a):=by
 have b:=h.2;unfold Th;refine I (aQ h.1) ?_;generalize x.2=l at*;cases a with
 |n a=>
  refine(?_ :SR E (gj (d.beq 43) _ _) (gj (d.beq 43) _ _));cases d.beq 43
  ·exact⟨rfl,I (pO ..) (I b (I (yh ..) J))⟩
  ·exact⟨rfl,b⟩
 |i a=>exact⟨rfl,I (se ..) (I b (Int.neg_one_mul _))⟩
theorem OQ{d:D}{A B C g f e:Prop}(a:A↔g)(b:B↔f)(c:C↔e):pk d A B C↔pk d g f e:=by
 refine I (zM a) (I (zM b) (I (zM c) ?_));rfl
theorem Qz{d:D}{a b:Sv}(e:a.b=b.b):rl d a b↔rl d (.i a.z) (.i b.z):=by
 cases a with
 |i a=>
  cases b with
  |n b=>exact nomatch e
  |i b=>exact Iff.rfl
 |n a=>
  cases b with
  |i b=>exact nomatch e
  |n b=>exact OQ lU.symm f8.symm ⟨aL Int.ofNat,nF⟩
theorem m1{l r a:Ln}(h:ev r a<=ev l a):0<=ev (mi l r) a:=I (wK ..) (Int.sub_nonneg_of_le h)
theorem m2{l r a:Ln}(h:ev r (1::a)<ev l (1::a)):0<=ev (pl (mi l r) [-1]) (1::a):=I (pO ..) (I (wK ..) (I (yh ..) (Int.le_sub_one_of_lt (Int.sub_pos_of_lt h))))
theorem OG{a:ag aF}{d:D}{l r:Ln}(w:rl d (.i (ev l (1::a))) (.i (ev r (1::a)))):0<=ev (Tn d l r) (1::a):=
 c3 (P:=λk=>0<=ev k (1::a)) w m1 λw=>c3 (P:=λk=>0<=ev k (1::a)) w m2 λw=>c3 (P:=λk=>0<=ev k (1::a)) w (λe=>m1 (jV e)) λw=>c3 (P:=λk=>0<=ev k (1::a)) w (λw=>m2 (Xf w)) λw=>c3 (P:=λk=>0<=ev k (1::a)) w (λw=>m1 (Xg w)) λb=>cy 0
theorem G6{a:ag aF}{d:D}{l r:Ln}(e:d.beq 2=am)(w:rl d (.i (ev l a)) (.i (ev r a))):ev (Tn d l r) a=0:=by
 have e:=eC e;rw[e] at w⊢;exact(wK r l a).trans (DQ.mpr (aQ w))
theorem Sd{a:ag aF}{d:D}{l r:Ln}{m:aF}(e:d.beq 2=ai)(w:¬rl d (.i (ev l (1::a))) (.i (ev r (1::a)))):0<=ev (gl d m l r) (1::a):=
 c4 (P:=λk=>0<=ev k (1::a)) w (λb w=>m2 (Xf w)) λw=>c4 (P:=λk=>0<=ev k (1::a)) w (λb w=>m1 (Xg w)) λw=>c4 (P:=λk=>0<=ev k (1::a)) w (λc b=>cq (e.symm.trans c) nofun) λw=>c4 (P:=λk=>0<=ev k (1::a)) w (λb w=>m1 (Aa.mp w)) λw=>c4 (P:=λk=>0<=ev k (1::a)) w (λb w=>m2 (Aa.mp w)) λw=>I (se ..) (I (wK ..) (I (DQ.mpr (aQ (Aa.mp w))) (I (tN ..) (cy 0))))
theorem OD{E:ag aF}{k:D}{x:aD×Ln}{a:Sv}(h:SR E x a)(t:x.1=am):SR E (am,pl (ti 16 x.2) [(k:aF)]) (Wn k a):=by
 have b:=h.2;have c:=h.1.trans t;cases a with
 |n a=>exact⟨rfl,I (pO ..) (I (se ..) (I b (I (yh ..) J)))⟩
 |i a=>exact nomatch c
theorem bt{a b:aD}{P:Prop}(h:(a&&b)=am)(k:a=am->b=am->P):P:=k (ig.mp h).1 (ig.mp h).2
theorem SO{a b m:aF}{t:aD}(c:0<=a)(d:0<=b)(e:t=am->b=0)(h:(t||decide (0<=m))=am):0<=a+m*b:=by
 cases t with
 |true=>exact I (e J) (I (tN ..) (I (dT ..) c))
 |false=>exact Int.add_nonneg c (Int.mul_nonneg (aa h) d)
theorem OA(G:ag Sv)(f:D):∀(c:D) (u:ag (aD×Ln)) (s:ag Sv) (a:Ln) (q:aD) (m:aF),Fv (G.map Sv.z) u s->0<=ev a (1::G.map Sv.z)->(q=am->ev a (1::G.map Sv.z)=0)->nU (G.map Sv.b) f c u a q m=am->den f c G s:=by
 induction f with
 |zero=>exact λd d d d d d d d d d=>trivial
 |succ f k=>
  intro c u s a q m r g i h;have j:=r.head;have o:=r.tail.head;refine cc h (λd h=>k _ _ _ _ _ _ (.cons ⟨(Pj _ _).symm,(aL (·+_) (tJ _)).trans ((tM _).trans (Pq _ G))⟩ r) g i h) λh=>cc h (λd h=>k _ _ _ _ _ _ (.cons ⟨rfl,yh _ _⟩ r) g i h) λh=>cc h (λd h=>bt h λt h=>k _ _ _ _ _ _ (.cons (OD j t) r.tail) g i h) λh=>cc h (λd h=>bt h λt h=>k _ _ _ _ _ _ (.cons (PP o j t) r.tail.tail) g i h) λh=>cc h (λd h=>k _ _ _ _ _ _ (.cons (N2 j) r.tail) g i h) λh=>cc h (λd h=>bt h λA h=>bt h λn C w=>?_) λh=>cc h (λd h=>k _ _ _ _ _ _ r g i h) λh=>cc h (λd h=>bt h λA n=>?_) λh=>cq g (Ub.mpr (MP h))
  ·have e:=(Qz (o.1.trans ((eq_of_beq A).trans j.1.symm))).mp w;rw[<-o.2,<-j.2] at e;refine k _ _ _ _ _ _ .nil ?_ (λB=>bt B λy v=>?_) C
   ·exact I (pO ..) (I (se ..) (SO g (OG e) (λx=>G6 x e) n))
   ·exact I (pO ..) (I (se ..) (I (G6 v e) (I (i y) (I (tN ..) J))))
  ·refine(Qz (o.1.trans ((eq_of_beq A).trans j.1.symm))).mpr (I (aQ o.2) (I (aQ j.2) ?_));cases p:gW (c%64-53) 2
   ·rw[p] at n;refine Jf λw=>?_;have l:=MP n;rw[pO] at l;exact Ub.mpr l (Int.add_nonneg g (Sd p w))
   ·rw[p] at n;refine bt n λy v=>?_;have z:=LP _ (1::G.map Sv.z) v;rw[pO,wK,i y,tM] at z;exact I (eC p) ((DQ.mp z).symm)
theorem oP(G:ag Sv)(c:D)(h:nU (G.map Sv.b) 90 c [] [] am 1=am):den 90 c G []:=OA G 90 c [] [] [] am 1 .nil (cy _) (λa=>rfl) h
end Mi.Q
namespace Mi
open Q
theorem Wx(k:D)(h:nU [] 90 k [] [] am 1=am):den 90 k [] []:=oP _ k h
theorem j5{u:aF}(k:D)(h:nU [ai] 90 k [] [] am 1=am):den 90 k [.i u] []:=oP _ k h
theorem Dp{u v:aF}(k:D)(h:nU [ai,ai] 90 k [] [] am 1=am):den 90 k [.i u,.i v] []:=oP _ k h
theorem JP{u v w:aF}(k:D)(h:nU [ai,ai,ai] 90 k [] [] am 1=am):den 90 k [.i u,.i v,.i w] []:=oP _ k h
theorem Xz{u v w x:aF}(k:D)(h:nU [ai,ai,ai,ai] 90 k [] [] am 1=am):den 90 k [.i u,.i v,.i w,.i x] []:=oP _ k h
theorem Pe{u v w x y:aF}(k:D)(h:nU [ai,ai,ai,ai,ai] 90 k [] [] am 1=am):den 90 k [.i u,.i v,.i w,.i x,.i y] []:=oP _ k h
theorem Xy{u v w x y z:aF}(k:D)(h:nU [ai,ai,ai,ai,ai,ai] 90 k [] [] am 1=am):den 90 k [.i u,.i v,.i w,.i x,.i y,.i z] []:=oP _ k h
theorem bO{a:D}(k:D)(h:nU [am] 90 k [] [] am 1=am):den 90 k [.n a] []:=oP _ k h
theorem mN{a:D}{u:aF}(k:D)(h:nU [am,ai] 90 k [] [] am 1=am):den 90 k [.n a,.i u] []:=oP _ k h
theorem Bi{a:D}{u v:aF}(k:D)(h:nU [am,ai,ai] 90 k [] [] am 1=am):den 90 k [.n a,.i u,.i v] []:=oP _ k h
theorem MW{a:D}{u v w:aF}(k:D)(h:nU [am,ai,ai,ai] 90 k [] [] am 1=am):den 90 k [.n a,.i u,.i v,.i w] []:=oP _ k h
theorem Xx{a:D}{u v w x y z:aF}(k:D)(h:nU [am,ai,ai,ai,ai,ai,ai] 90 k [] [] am 1=am):den 90 k [.n a,.i u,.i v,.i w,.i x,.i y,.i z] []:=oP _ k h
theorem dw{a b:D}(k:D)(h:nU [true,true] 90 k [] [] true 1=true):den 90 k [.n a,.n b] []:=oP _ k h
theorem JO{a b:D}{u:aF}(k:D)(h:nU [true,true,ai] 90 k [] [] true 1=true):den 90 k [.n a,.n b,.i u] []:=oP _ k h
theorem MV{a b:D}{u v:aF}(k:D)(h:nU [true,true,ai,ai] 90 k [] [] true 1=true):den 90 k [.n a,.n b,.i u,.i v] []:=oP _ k h
theorem za{a b:D}{u v w:aF}(k:D)(h:nU [true,true,ai,ai,ai] 90 k [] [] true 1=true):den 90 k [.n a,.n b,.i u,.i v,.i w] []:=oP _ k h
theorem Tz{a b:D}{u v w x:aF}(k:D)(h:nU [true,true,ai,ai,ai,ai] 90 k [] [] true 1=true):den 90 k [.n a,.n b,.i u,.i v,.i w,.i x] []:=oP _ k h
theorem Ww{a b:D}{u v w x y:aF}(k:D)(h:nU [true,true,ai,ai,ai,ai,ai] 90 k [] [] true 1=true):den 90 k [.n a,.n b,.i u,.i v,.i w,.i x,.i y] []:=oP _ k h
theorem gC{a b c:D}(k:D)(h:nU [true,true,true] 90 k [] [] true 1=true):den 90 k [.n a,.n b,.n c] []:=oP _ k h
theorem Wv{a b c:D}{u:aF}(k:D)(h:nU [true,true,true,ai] 90 k [] [] true 1=true):den 90 k [.n a,.n b,.n c,.i u] []:=oP _ k h
theorem Ax{a b c:D}{u v:aF}(k:D)(h:nU [true,true,true,ai,ai] 90 k [] [] true 1=true):den 90 k [.n a,.n b,.n c,.i u,.i v] []:=oP _ k h
theorem Wu{a b c:D}{u v w:aF}(k:D)(h:nU [true,true,true,ai,ai,ai] 90 k [] [] true 1=true):den 90 k [.n a,.n b,.n c,.i u,.i v,.i w] []:=oP _ k h
theorem ri{a b c d:D}(k:D)(h:nU [true,true,true,true] 90 k [] [] true 1=true):den 90 k [.n a,.n b,.n c,.n d] []:=oP _ k h
theorem Xw{a b c d:D}{u v w:aF}(k:D)(h:nU [true,true,true,true,ai,ai,ai] 90 k [] [] true 1=true):den 90 k [.n a,.n b,.n c,.n d,.i u,.i v,.i w] []:=oP _ k h
theorem Wt{a b c d e:D}(k:D)(h:nU [true,true,true,true,true] 90 k [] [] true 1=true):den 90 k [.n a,.n b,.n c,.n d,.n e] []:=oP _ k h
theorem Xv{a b c d e f:D}(k:D)(h:nU [true,true,true,true,true,true] 90 k [] [] true 1=true):den 90 k [.n a,.n b,.n c,.n d,.n e,.n f] []:=oP _ k h
end Mi
end
set_option tactic.hygienic true
section
namespace Mi
theorem Y6{b c a:D}(f:1<=b/\b<=1000)(e:c=b)(d:a<=c+1):min (a+1) (a+(0+1))<=16777216:=az (fP _ _) (gC 0xd58618618609a090aea09042c0006e8262c0 J f.2 e d)
theorem Y5{a b:D}(c:a<=b):min a b=a:=eI c
theorem Y4{a:D}(b:a<100):¬a/30+1>300:=dw 0xe6824191a26f70e02e001 J (Nat.div_le_self a 30) b
theorem Y3{a:D}{b:aF}(c:(↑a:aF)=b):b.toNat=a:=c▸z9 a
theorem Y2{a:D}(b:a<256):¬((↑a:aF)<0\/(↑a:aF)≥256):=not_or.mpr ⟨bO 0x39ac8ac0 J,bO 0xe2b02b61826f618240 J b⟩
theorem WV{d c b a:D}(g:d=c)(f:b=a)(e:¬c=a):¬d=b:=λh=>e (g.symm.trans (h.trans f))
theorem Y1{a:aF}{b:D}(c:0<=a)(d:a.toNat<b):0<=a/\a<(↑b:aF):=⟨c,(Int.toNat_lt c).mp d⟩
theorem Y0{b:aF}{a:D}(d:¬0<=b)(c:0<=b+(↑a:aF)):(b+(↑a:aF)).toNat<a:=(Int.toNat_lt c).mpr (mN 0x36ac0a2b001c41ac8 J d)
theorem YZ{a b:D}(c:a<=b):(↑a:aF)=max 0 (min (↑a:aF) (↑b:aF)):=by rw[Int.min_eq_left (lU.mpr c),BB (bN _)]
theorem YY{a:aF}(c:0<=a)(b:a<256):¬(a<0\/a≥256):=not_or.mpr ⟨Int.not_lt.mpr c,Ub.mpr b⟩
theorem VW{a:aF}(b:a<256):a.toNat<256:=(Int.toNat_lt' (ac J)).mpr b
theorem VV{a:D}(b:65<=(↑a:aF)/\(↑a:aF)<=90\/97<=(↑a:aF)/\(↑a:aF)<=122\/(↑a:aF)=95):a<123:=b.elim (λh=>bO 0xda33c0bab88dac0 J h.2) λh=>h.elim (λh=>bO 0xda33c0bab88fac0 J h.2) λh=>bO 0xda33c0c2b9cdac0 J h
theorem VU{a:D}(b:¬(↑a:aF)=34/\¬(↑a:aF)=39/\¬(↑a:aF)=91/\¬(↑a:aF)=46/\¬(↑a:aF)=45/\¬(↑a:aF)=61/\¬(↑a:aF)=60/\¬(↑a:aF)=62/\¬(↑a:aF)=126/\¬(↑a:aF)=10/\¬(↑a:aF)=13):¬(↑a:aF)=10/\¬(↑a:aF)=13:=b.2.2.2.2.2.2.2.2.2
theorem VT{a:D}(b:¬(↑a:aF)=34/\¬(↑a:aF)=39/\¬(↑a:aF)=91/\¬(↑a:aF)=46/\¬(↑a:aF)=45/\¬(↑a:aF)=61/\¬(↑a:aF)=60/\¬(↑a:aF)=62/\¬(↑a:aF)=126/\¬(↑a:aF)=10/\¬(↑a:aF)=13):(¬(↑a:aF)=34/\¬(↑a:aF)=39)/\¬(↑a:aF)=91/\¬(↑a:aF)=46/\¬(↑a:aF)=45/\¬(↑a:aF)=61/\¬(↑a:aF)=60/\¬(↑a:aF)=62/\¬(↑a:aF)=126:=have q:=b.2.2;⟨⟨b.1,b.2.1⟩,q.1,q.2.1,q.2.2.1,q.2.2.2.1,q.2.2.2.2.1,q.2.2.2.2.2.1,q.2.2.2.2.2.2.1⟩
theorem Ra{a b:D}(c:a<=3000):a-b<4000:=cR (jJ _ _) (bO 0xd9889702e8234c0 J c)
theorem VS{c b a:aF}{d:Prop}(g:c+1+b-a<=(↑0:aF))(f:a<=b)(e:0<=c):d:=(JP 0x3bb80ac8b810aeac8a82a01a2b240 J g f e).elim
theorem VQ{a:D}(b:¬a=0):(↑a:aF)>0:=Int.natCast_pos.mpr (Nat.pos_of_ne_zero b)
theorem Q9{b a:D}(c:0=b-a):b<=a:=P5 c.symm
theorem Q8{c b a:D}(d:c+1=b-a):a<b:=P4 d.symm
theorem NJ{c b a:D}(d:c+1=b-a):c=b-(a+1):=aL Nat.pred d
theorem VP{a b:D}(c:a<=3000):min (b+1) a+1<=100000:=dw 0x356227a0268241ba08d302e001 J (d9 _ _) c
theorem VO{a b:D}(c:a<=3000):min (b+1) a+1+(a-(b+2))<=100000:=gC 0x356227a02680a8241ba08d3033b800ae001 J (d9 _ _) (jJ _ _) c
theorem VN{a:aF}{b:Prop}(c:a+1=a):b:=(j5 0x3bc00a2b240 J c).elim
theorem NI{h g f e d:aF}{c b a:D}(j:h-(↑c:aF)+g<=f-(↑b:aF))(i:f-(↑b:aF)+e<=d-(↑a:aF)):h-(↑c:aF)+(g+e)<=d-(↑a:aF):=Pe 0x35128a03040b84a030ae0a8040 J j i
theorem VM{d c:aF}{a b:D}(e:d<=c):d-(↑a:aF)+0<=c-(↑(min a b):aF):=MV 0xd6aac10e8ac8aab002b8006e0c2 J e (fP a b)
theorem VL{a:aF}(b:a=46\/a=91\/a=58\/a=286\/a=123\/a=40):a=46\/a=91\/a=58\/a=40\/a=286\/a=123:=b.imp_right (Or.imp_right (Or.imp_right λh=>h.elim (λx=> .inr (.inl x)) λh=>h.elim (λx=> .inr (.inr x)) .inl))
theorem VJ{a:aF}(b:a=46\/a=91\/a=58\/a=286\/a=123\/a=40):(a=46\/a=91)\/a=58\/a=286\/a=123\/a=40:=or_assoc.mpr b
theorem VI{a:aF}(j:¬a=123)(i:¬a=265)(g:¬a=284)(f:¬a=286)(e:¬a=269)(d:¬a=279)(c:a=284\/a=269\/a=286\/a=279\/a=123\/a=265\/a=285\/a=40)(b:¬(a=285\/a=40)):bA:=c.elim g λh=>h.elim e λh=>h.elim f λh=>h.elim d λh=>h.elim j λh=>h.elim i b
theorem NH{b a:D}(c:b<a):a-b=a-(b+1)+1:=(Nat.succ_pred (P2 c)).symm
theorem Q7{c b a:D}(e:c=b-a)(d:a+1<b):b-(a+1+1)<c:=T7 (oF (Nat.lt_of_succ_lt d) (Wc (dc _))) e.symm
theorem VH{c b a:D}(e:c=b-a)(d:a+2<=b):b-(a+2)<c:=Q7 e d
theorem VG{a:D}{b:Prop}(d:285=(↑a:aF))(c:a<256):b:=(bO 0x3bbd8609030ac0ae5649 J d c).elim
theorem VF{a:D}:(-1+(↑(a+1):aF)).toNat=a:=aL Int.toNat (bO 0x37ac0a2ba0902cac9 J: -1+(↑(a+1):aF)=(↑a:aF))
theorem VE{a:aF}(d:a=259\/a=277\/a=272\/a=266\/a=264\/a=265\/a=268\/a=285\/a=40)(b:¬(a=259\/a=277\/a=272\/a=266\/a=264\/a=265\/a=268))(c:¬(a=285\/a=40)):bA:=d.elim (λe=>b (.inl e)) λh=>h.elim (λe=>b (.inr (.inl e))) λh=>h.elim (λe=>b (.inr (.inr (.inl e)))) λh=>h.elim (λe=>b (.inr (.inr (.inr (.inl e))))) λh=>h.elim (λe=>b (.inr (.inr (.inr (.inr (.inl e)))))) λh=>h.elim (λe=>b (.inr (.inr (.inr (.inr (.inr (.inl e))))))) λh=>h.elim (λe=>b (.inr (.inr (.inr (.inr (.inr (.inr e))))))) c
theorem VD{a:aF}(i:¬a=266)(g:¬a=277)(f:¬a=259)(e:¬a=264)(d:¬a=272)(c:¬a=265)(b:¬a=268):¬(a=259\/a=277\/a=272\/a=266\/a=264\/a=265\/a=268):=λh=>h.elim f λh=>h.elim g λh=>h.elim d λh=>h.elim i λh=>h.elim e λh=>h.elim c b
theorem VC{a:aF}(c:¬a=273)(b:¬a=258):¬(a=273\/a=258):=λh=>h.elim c b
theorem Q6{a b:D}(d:10*(40-a)+0<=b+1)(c:a<40):10*(40-(a+1))+9<=b:=gC 0x35028469052ba8240a08a424b0a09042d33cf3cf3cf3cf3 J (NH c) d
theorem VB{e c d a b:D}(i:e<=c+0)(h:d<=a)(g:a<=b)(f:c<d):2*(b-a)+1<2*(b-c)+1/\e+1<=a+0:=have l:=cQ f h;⟨dw 0x36a09a412a826900abc1033 J (oF (cQ l g) l),gC 0x35a080a8240bc206ea08040 J i l⟩
theorem VA{e c d b a:D}(h:e<=c+0)(g:d<=b)(f:c<=d):2*(a-b)+0<2*(a-c)+1/\e+1<=b+1:=have l:=az f g;⟨dw 0x36a09a412a822900ab81033 J (Nat.sub_le_sub_left l a),gC 0x35a090a8240b8206ea08040 J h l⟩
theorem Q5{i0 b:aF}{a c:D}(g: -2<=i0)(f:10*(40-a)+c<=0)(e:i0<=b-(↑a:aF))(d:b<=37):bA:=dw 0x3bb88a00a414aea414a9252 J (kc 10 (Nat.sub_pos_of_lt (Bi 0xda0280bab74a0aeaab00206e06caca J g e d))) f
theorem Vz{b a:aF}{c:Prop}(f:1<=b)(e:¬b>a)(d:a=0):¬c:=λ_=>Dp 0xef0ac8072001b80ac9 J f e d
theorem Vy{a:aF}(e:¬a=286)(d:¬a=123)(c:¬a=40)(b:a=286\/a=123\/a=40):bA:=b.elim e λh=>h.elim d c
theorem Vx{e b d a c:D}(i:e=b-d)(f:d<=a)(h:c=a+1)(g:a<b):b-c<e:=T7 (oF (cR f g) (gC 0xd82030a09042d2e040 J f h)) i.symm
theorem Vv{b a:D}{c:Prop}(e:b≠a/\c)(d:b<a+1):b<a:=pV (zW d) e.1
theorem Vu{b a:D}(c:b-1<=a):b<=a+1:=Nat.le_add_of_sub_le c
theorem Vt{b a:D}(d:b<a+1)(c:b≠a):b<a:=pV (zW d) c
theorem Vs{b a:D}:b+1-(a+1)=b-a:=Nat.add_sub_add_right b 1 a
theorem Vr{b a:D}(c:b+1-a=b-a+1):a<=b+1:=fh (P4 c)
theorem Vq{a:D}:a%10<=5000:=bO 0x358206c902f480 J (Nat.mod_lt a (ac J:10>0))
theorem Q4{a:D}(b:(↑a:aF)>9):a/10<a:=Nat.div_lt_self (bO 0xd8022fac0ad1 J b) (ac J)
theorem Vp{a:D}:48+a%10<256:=bO 0x366182680182ef480 J (Nat.mod_lt a (ac J:10>0))
theorem Vo{b a:D}(d:b+a<=5000)(c:(↑a:aF)>9):b+1+a/10<=5000:=gC 0x358206c9a02a0902e8206c9a0102f042 J (Q4 c) d
theorem Vn{a:aF}(b:257<=a):a=257+(↑(a-257).toNat:aF):=Dp 0xde806b658240c2aad9609001 J (oI (j5 0x35aab658240ac8b80ad9609 J b))
theorem Vm{a:D}(b:¬a<21):(↑a:aF)-(↑21:aF)=(↑(a-21):aF):=(Int.ofNat_sub (fB b)).symm
theorem Vl{a:D}(b:257+(↑a:aF)<=287):a-21<10:=cR (Nat.sub_le_sub_right (bO 0xd66240bab9d9268ac0ad9609 J b) 21) (ac J)
theorem Q3{a:aF}{b:D}(c:1<=a/\a<=1+(↑b:aF)):a=(↑a.toNat:aF):=(oI (j5 0xd40ac8b80ac9 J c.1)).symm
theorem Vk{a:aF}{b:D}(c:1<=a/\a<=1+(↑b:aF))(d:b<=3000):a.toNat<=5000:=JO 0x358206c906e8234c0ba8ac0ac90b0ac10b4 J (Q3 c) c.2 d
theorem Vj{d b c a:D}{i g:Prop}(j:d<=b\/b<c)(f:c<=a/\a<d/\(i\/g)):b≠a:=λe=>j.elim (λh=>gC 0xef0081bc00ae040 J h f.2.1 e) λh=>gC 0x3bc02034b8206f040 J h f.1 e
theorem Vi{b a:D}:min (min b a) a=min b a:=eI (d9 _ _)
theorem Vh{b a:D}{d:Prop}(c:b<a)(e:b=a\/b=a+1\/b=a+2):d:=(e.elim (λh=>dw 0xef0040d2f040 J c h) λh=>h.elim (λh=>dw 0xef0a09040d2f040 J c h) λh=>dw 0xef0a0a040d2f040 J c h:bA).elim
theorem Vg{b:aF}{a:D}(d:(↑(b%(↑a:aF)).toNat:aF)=b%(↑a:aF))(c:b%(↑a:aF)<(↑a:aF)):(b%(↑a:aF)).toNat<a:=f8.mp (Uc (jV d) c)
theorem Vf{a:D}(b:a<=40):0+501*a<=20040:=az (lS (tE _)) (kc 501 b)
theorem Ve{b a:D}(c:¬b<=a):b+1-a=b-a+1:=Nat.succ_sub (Nat.le_of_not_le c)
theorem Vd{b a:D}(c:¬b<=a):b-a=b-1-a+1:=((aL vP (Nat.sub_right_comm b 1 a)).trans (show vP (Nat.pred (b-a))=b-a from Nat.succ_pred (P2 (gM c)))).symm
theorem Vc{b a:D}(c:¬b<=a):a<=b-1:=Nat.le_sub_one_of_lt (gM c)
theorem Vb{a:D}:a+2-a=1+1:=cV a 2
theorem Va{a:D}:a+1-a=0+1:=cV a 1
theorem U9{c b a:D}(d:¬c+b<=a):a-c<=b:=Nat.sub_le_of_le_add (gC 0xd680010b10a8040 J d)
theorem U8{a:D}(b:¬a=0):(↑a:aF)≠(↑0:aF):=λe=>b (nF e)
theorem U7{a:D}(b:¬a=1):(↑a:aF)≠(↑1:aF):=λe=>b (nF e)
theorem U6{a b:D}(c:a<=3000):min b a+1<=10000:=dw 0xd5865f2a8241ba08d302e001 J (d9 b a) c
theorem U5{a b:D}(c:a<=3000):min b a+1+(a-b)<=10000:=gC 0xd5865f2a80a8241ba08d3033b800ae001 J (d9 b a) (jJ _ _) c
theorem U4{b a:D}(d:b<=a)(c:¬b=a):b<a:=pV d c
theorem U3{b a c:D}(e:b<=100000)(d:b=a):¬a+c*0>16777216:=(dw 0xe41618618618270040d2e6227a0240 J e d:¬a>16777216)
theorem U2{b a:D}(c:b+38*(a+1)<=80):a<3:=gM λh=>dw 0x3bba905e2a92de2ae60da29a0905e280 J c (kc 38 h)
theorem U1{b a:D}(c:b+38*(a+1)<=80):a<2:=gM λh=>dw 0x3bba905e2a929e2ae60da29a0905e280 J c (kc 38 h)
theorem U0{a:D}(b:a<2):1+38*(1+a)<=80:=bO 0xd58368a6800978a26ea4978aa4078a J (kc 38 (zW b))
theorem UZ{b a:D}(d:¬b<a)(c:b-a<1):b=a:=Nat.le_antisymm (P5 (Nat.lt_one_iff.mp c)) (fB d)
theorem UY{b a:D}(c:¬b=a):(↑b:aF)≠(↑a:aF):=λe=>c (nF e)
theorem UX{a:D}:min 30 a<=30:=fP _ _
theorem UW{a:D}{c b:aF}(f:2*(↑a:aF)<=c)(e:c<=b)(d:b<=1000):a<=800:=fB λh=>Bi 0x3bbc061a2f3bab8262c2b8206e069ac0aca J f e d h
end Mi
end
set_option tactic.hygienic false
section
namespace Mi
open PySem (Operator CmpOp)
inductive V where
 |none|bool (b:aD)|int (i:aF)|str (s:ag D)|bytes (b:ag D)
 |fn (i:D)|cls (c:D)|ty (t:D)|bi (b:D)|ref (n:D)|aV (a:D)
 deriving DecidableEq
inductive O where
 |inst (c:D) (fs:ag (D×V))
 |list (xs:ag V)
 |bq (xs:ag V)
 |dict (kvs:ag (V×V))
 |f7 (b:ag D)
noncomputable abbrev H:=ag O
inductive E where
 |c (v:V)
 |l (i:D)
 |at(e:E) (a:D)
 |ca (f:E) (as:ag E)
 |me (o:E) (a:D) (as:ag E)
 |dy (op:Operator) (l r:E)
 |neg (e:E)
 |cj (op:CmpOp) (l r:E)
 |jQ (op1 op2:CmpOp) (a b c:E)
 |du (es:ag E)
 |jr (es:ag E)
 |lu (e:E)
 |jP (t b o:E)
 |bq (es:ag E)
 |eS (es:ag E)
 |QU
 |sub (o i:E)
 |hO (o:E) (lo hi:av E)
 |JR (it:E)
inductive T where
 |n (i:D)
 |at(e:E) (a:D)
 |su (o i:E)
 |tu (is:ag D)
inductive S where
 |ex (e:E)
 |as (t:T) (e:E)
 |JV (i:D) (op:Operator) (e:E)
 |v7 (o:E) (a:D) (op:Operator) (e:E)
 |jC (t:E) (b o:ag S)
 |wh (t:E) (b:ag S)
 |fo (i:D) (it:E) (b:ag S)
 |QP (i j:D) (it:E) (b:ag S)
 |re (e:av E)
 |br
 |pa
 |ra (e:E)
noncomputable abbrev jR:=D->av O
noncomputable def rq(i:aF):aD:=decide (-(2^100:aF)<i)&&decide (i<2^100)
noncomputable def dW:D:=100000
noncomputable abbrev bS:=ag (av V)
inductive Fl where
 |next|brk|ret (v:V)
structure FI where
 np:D
 nl:D
 body:ag S
def Look(K:jR)(h:H):V->O->Prop
 | .ref n,o=>h[n]? =ae o
 | .aV a,o=>K a=ae o
 |_,_=>bA
noncomputable def JI:V->av aD
 | .none=>ae ai
 | .bool b=>ae b
 | .int i=>ae (i !=0)
 |_=> .none
noncomputable def setField(a:D)(v:V):ag (D×V)->ag (D×V)
 |[]=>[(a,v)]
 |(b,w)::r=>if a=b then(a,v)::r else(b,w)::setField a v r
noncomputable def qz(c:Operator)(a b:aF):av aF:=match c with
 | .Add=>if rq a&&rq b then ae (a+b) else ax
 | .Sub=>if rq a&&rq b then ae (a-b) else ax
 | .Mult=>if a.natAbs<2^31 then ae (a*b) else ax
 | .FloorDiv=>if 0<b&&rq b then ae (a/b) else ax
 | .Mod=>if 0<b then ae (a%b) else ax
 | .LShift=>if 0<=a&&a<2&&(0<=b&&b<=64) then ae (a*2^b.toNat) else ax
 | .BitAnd=>if 0<=a&&0<=b then ae (Int.ofNat (a.toNat&&&b.toNat)) else ax
 |_=>ax
inductive tA(K:jR)(h:H):Operator->V->V->V->H->Prop
 |int {op:Operator} {i j k:aF} (e:qz op i j=ae k):tA K h op (.int i) (.int j) (.int k) h
 |str {x y:ag D} (e:x.length+y.length<=dW):tA K h .Add (.str x) (.str y) (.str (x++y)) h
 |bytes {x y:ag D} (e:x.length+y.length<=dW):tA K h .Add (.bytes x) (.bytes y) (.bytes (x++y)) h
 |yn {v w:V} {xs ys:ag V} (a:Look K h v (.list xs)) (b:Look K h w (.list ys)) (e:(Y7 xs)+Y7 ys<=dW):tA K h .Add v w (.ref h.length) (h++[.list (xs++ys)])
 |mul {v:V} {n:D} {xs:ag V} (a:Look K h v (.list xs)) (e:n<=10/\Y7 xs<=10):tA K h .Mult v (.int n) (.ref h.length) (h++[.list (cE n xs).flatten])
noncomputable def iY(a b:V):av aD:=match a with
 | .int x=>(match b with| .int y=>ae (x==y)|_=>ax)
 | .str x=>(match b with| .str y=>ae (x==y)|_=>ax)
 | .bytes x=>(match b with| .bytes y=>ae (x==y)|_=>ax)
 |_=>ax
noncomputable def js(v:V)(a:ag V):aD:=a.all λx=>(iY v x).isSome
noncomputable def MX:V->aD
 | .int _| .str _| .bytes _=>am
 |_=>ai
noncomputable def uI(v:V)(a:ag V):aD:=a.any λx=>iY v x==ae am
noncomputable def dp(k:V)(a:ag (V×V)):av V:=(a.find? λb=>decide (b.1=k)).map (·.2)
def xh(k:V)(a:ag (V×V)):Prop:=(MX k&&js k (a.map (·.1)))=am
noncomputable def uN(k v:V)(a:ag (V×V)):ag (V×V):=if a.any (λb=>decide (b.1=k)) then a.map (λb=>if b.1=k then(b.1,v) else b) else a++[(k,v)]
inductive Br(K:jR)(h:H):V->V->aD->Prop
 |bytes {i:D} {b:ag D} (e:i<256):Br K h (.int i) (.bytes b) (b.contains i)
 |str {c:D} {y:ag D}:Br K h (.str [c]) (.str y) (decide (c∈y))
 |seq {v c:V} {xs:ag V} (a:Look K h c (.list xs)\/Look K h c (.bq xs)) (e:js v xs=am):Br K h v c (uI v xs)
 |dict {v c:V} {kvs:ag (V×V)} (a:Look K h c (.dict kvs)) (e:xh v kvs):Br K h v c (dp v kvs).isSome
noncomputable def n6(a:CmpOp)(i j:aF):av aD:=match a with
 | .Lt=>ae (decide (i<j))
 | .LtE=>ae (decide (i<=j))
 | .Gt=>ae (decide (i>j))
 | .GtE=>ae (decide (i≥j))
 | .Eq=>ae (i==j)
 | .NotEq=>ae (!(i==j))
 |_=>ax
noncomputable def oQ(b a:ag V):aD:=decide (Y7 b=Y7 a)&&(b.zip a).all λp=>iY p.2 p.1==ae am
inductive kg(K:jR)(h:H):CmpOp->V->V->aD->Prop
 |int {op:CmpOp} {i j:aF} {t:aD} (e:n6 op i j=ae t):kg K h op (.int i) (.int j) t
 |str {x y:ag D}:kg K h .Eq (.str x) (.str y) (x==y)
 |bytes {x y:ag D}:kg K h .Eq (.bytes x) (.bytes y) (x==y)
 |QD {x y:ag D}:kg K h .NotEq (.str x) (.str y) (!(x==y))
 |O6 {x y:ag D}:kg K h .NotEq (.bytes x) (.bytes y) (!(x==y))
 |eS {n m:D} {xs ys:ag V} (a:h[n]? =ae (.list xs)) (b:h[m]? =ae (.list ys)) (e:n≠m) (c:∀p∈xs.zip ys,(iY p.2 p.1).isSome=am):kg K h .Eq (.ref n) (.ref m) (oQ xs ys)
 |QG {n m:D} {xs ys:ag V} (a:h[n]? =ae (.list xs)) (b:h[m]? =ae (.list ys)) (c:∀p∈xs.zip ys,(iY p.2 p.1).isSome=am):kg K h .NotEq (.ref n) (.ref m) (!oQ xs ys)
 |none {v:V}:kg K h .Is v .none (decide (v= .none))
 |some {v:V}:kg K h .IsNot v .none (!decide (v= .none))
 |s7 {v c:V} {t:aD} (e:Br K h v c t):kg K h .In v c t
 |MO {v c:V} {t:aD} (e:Br K h v c t):kg K h .NotIn v c (!t)
noncomputable def Az(i:aF)(n:D):av D:=if n<=dW then(if 0<=i then(if i.toNat<n then ae i.toNat else ax) else if 0<=i+n then ae (i+n).toNat else ax) else ax
inductive yw(K:jR)(h:H):V->V->V->Prop
 |bytes {b:ag D} {i:aF} {k x:D} (e:Az i b.length=ae k) (g:b[k]? =ae x):yw K h (.bytes b) (.int i) (.int x)
 |str {b:ag D} {i:aF} {k x:D} (e:Az i b.length=ae k) (g:b[k]? =ae x):yw K h (.str b) (.int i) (.str [x])
 |list {o v:V} {xs:ag V} {i:aF} {k:D} (a:Look K h o (.list xs)) (e:Az i (Y7 xs)=ae k) (g:xs[k]? =ae v):yw K h o (.int i) v
 |bq {o v:V} {xs:ag V} {i:aF} {k:D} (a:Look K h o (.bq xs)) (e:Az i (Y7 xs)=ae k) (g:xs[k]? =ae v):yw K h o (.int i) v
 |dict {o k v:V} {kvs:ag (V×V)} (a:Look K h o (.dict kvs)) (e:xh k kvs) (g:dp k kvs=ae v):yw K h o k v
noncomputable def gu(n:D)(i:aF):D:=(max 0 (min (if i<0 then i+n else i) n)).toNat
noncomputable def part:V->av (av aF)
 | .none=>ae ax
 | .int i=>ae (ae i)
 |_=>ax
noncomputable def gN{α:Type}(a:ag α)(b c:av aF):ag α:=(a.drop (b.elim 0 (gu (Y7 a)))).take (c.elim (Y7 a) (gu (Y7 a))-b.elim 0 (gu (Y7 a)))
inductive yr(K:jR)(h:H):V->V->V->V->H->Prop
 |bytes {b:ag D} {lo hi:V} {l u:av aF} (a:part lo=ae l) (c:part hi=ae u) (e:b.length<=dW):yr K h (.bytes b) lo hi (.bytes (gN b l u)) h
 |str {b:ag D} {lo hi:V} {l u:av aF} (a:part lo=ae l) (c:part hi=ae u) (e:b.length<=dW) (o:l.elim 0 (gu b.length)<=u.elim b.length (gu b.length)):yr K h (.str b) lo hi (.str (gN b l u)) h
 |list {v lo hi:V} {xs:ag V} {l u:av aF} (g:Look K h v (.list xs)) (a:part lo=ae l) (c:part hi=ae u) (e:(Y7 xs)<=dW):yr K h v lo hi (.ref h.length) (h++[.list (gN xs l u)])
 |f7 {v lo hi:V} {b:ag D} {l u:av aF} (g:Look K h v (.f7 b)) (a:part lo=ae l) (c:part hi=ae u) (e:b.length<=dW):yr K h v lo hi (.ref h.length) (h++[.f7 (gN b l u)])
inductive PQ(h:H):V->V->V->H->Prop
 |list {n k:D} {xs:ag V} {v:V} (g:h[n]? =ae (.list xs)) (e:k<Y7 xs) (l:(Y7 xs)<=dW):PQ h (.ref n) (.int k) v (h.set n (.list (xs.set k v)))
 |dict {n:D} {kvs:ag (V×V)} {k v:V} (g:h[n]? =ae (.dict kvs)) (e:xh k kvs) (l:(Y7 kvs)<=1000):PQ h (.ref n) k v (h.set n (.dict (uN k v kvs)))
noncomputable def qj(a:ag V):av (ag D):=match a with
 |[]=>ae []
 | .int i::r=>if 0<=i/\i<256 then(qj r).map (i.toNat::·) else ax
 |_=>ax
inductive nD(K:jR)(h:H):D->ag V->V->Prop
 |bytes {x:ag D} (e:x.length<=dW):nD K h 0 [.bytes x] (.int x.length)
 |str {x:ag D} (e:x.length<=dW):nD K h 0 [.str x] (.int x.length)
 |list {v:V} {xs:ag V} (a:Look K h v (.list xs)) (e:(Y7 xs)<=dW):nD K h 0 [v] (.int (Y7 xs))
 |bq {v:V} {xs:ag V} (a:Look K h v (.bq xs)) (e:(Y7 xs)<=dW):nD K h 0 [v] (.int (Y7 xs))
 |f7 {v:V} {xs:ag D} (a:Look K h v (.f7 xs)) (e:(Y7 xs)<=dW):nD K h 0 [v] (.int (Y7 xs))
 |isInt {i:aF}:nD K h 1 [.int i,.ty 1] (.bool am)
 |Hh {i:aF}:nD K h 1 [.int i,.ty 2] (.bool ai)
 |Dk {i:aF}:nD K h 1 [.int i,.ty 3] (.bool ai)
 |isBytes {b:ag D}:nD K h 1 [.bytes b,.ty 3] (.bool am)
 |abs {i:aF}:nD K h 2 [.int i] (.int i.natAbs)
 |max {i j:aF}:nD K h 3 [.int i,.int j] (.int (if j>i then j else i))
 |sum {v:V} {is:ag aF} (a:Look K h v (.list (is.map .int))):nD K h 4 [v] (.int is.sum)
inductive Fu(ba:aD)(K:jR)(h:H):D->ag V->V->H->Prop
 |f7 {v:V} {xs:ag D} (a:Look K h v (.f7 xs)) (e:(Y7 xs)<=dW):Fu ba K h 3 [v] (.bytes xs) h
 |list {v:V} {xs:ag V} {b:ag D} (a:Look K h v (.list xs)) (e:(Y7 xs)<=dW) (o:qj xs=ae b):Fu ba K h 3 [v] (.bytes b) h
 |new (b:ba=am):Fu ba K h 5 [] (.ref h.length) (h++[.f7 []])
 |cp {v:V} {xs:ag V} (a:Look K h v (.list xs)) (e:(Y7 xs)<=dW):Fu ba K h 4 [v] (.ref h.length) (h++[.list xs])
 |str {i:D} (e:i<10^9):Fu ba K h 6 [.int i] (.str ((toString i).toList.map Ud)) h
noncomputable def lZ(s:ag D)(c:D):ag (ag D):=
 let x:bR:=⟨s.toArray⟩
 let o:=PySem.Builtin.Str.occurrences x ⟨#[c]⟩ 0 x.length (x.length+1)
 if o.isEmpty then[s] else(qR x o 1).map (·.cps.toList)
inductive Bp(ba:aD)(h:H):D->V->D->ag V->V->H->Prop
 |iW {s:ag D} (a:s.all (·<128)=am) (e:s.length<=dW):Bp ba h 0 (.str s) 1004 [.str [97,115,99,105,105]] (.bytes s) h
 |split {s:ag D} {c:D} (e:1<=s.length/\s.length<=1000) (l:c<256):Bp ba h 0 (.str s) 1005 [.str [c]] (.ref h.length) (h++[.list ((lZ s c).map V.str)])
 |ii {n:D} {xs:ag V} {v:V} (g:h[n]? =ae (.list xs)) (e:(Y7 xs)<=dW):Bp ba h 1 (.ref n) 1000 [v] .none (h.set n (.list (xs++[v])))
 |ext {n m:D} {xs ys:ag V} (g:h[n]? =ae (.list xs)) (k:h[m]? =ae (.list ys)) (ne:m≠n) (e:(Y7 xs)+Y7 ys<=dW):Bp ba h 1 (.ref n) 1001 [.ref m] .none (h.set n (.list (xs++ys)))
 |Wo {n:D} {xs:ag V} (g:h[n]? =ae (.list xs)) (e:(Y7 xs)<=dW):Bp ba h 1 (.ref n) 1002 [] .none (h.set n (.list xs.reverse))
 |M0 {n k:D} {xs:ag V} {v:V} (g:h[n]? =ae (.list xs)) (e:(Y7 xs)<=dW) (a:js v xs=am) (f:xs.findIdx? (λx=>iY v x==ae am)=ae k):Bp ba h 1 (.ref n) 1007 [v] (.int k) h
 |Rb {n i:D} {xs:ag D} (b:ba=am) (g:h[n]? =ae (.f7 xs)) (e:(Y7 xs)<=dW) (l:i<256):Bp ba h 2 (.ref n) 1000 [.int i] .none (h.set n (.f7 (xs++[i])))
 |get {n:D} {kvs:ag (V×V)} {k:V} (g:h[n]? =ae (.dict kvs)) (e:xh k kvs):Bp ba h 3 (.ref n) 1003 [k] ((dp k kvs).getD .none) h
inductive Bq(h:H):V->D->D->Prop
 |iW {s:ag D}:Bq h (.str s) 1004 0
 |split {s:ag D}:Bq h (.str s) 1005 0
 |list {n a:D} {xs:ag V} (g:h[n]? =ae (.list xs)) (e:a=1000\/a=1001\/a=1002\/a=1007):Bq h (.ref n) a 1
 |f7 {n:D} {xs:ag D} (g:h[n]? =ae (.f7 xs)):Bq h (.ref n) 1000 2
 |dict {n:D} {kvs:ag (V×V)} (g:h[n]? =ae (.dict kvs)):Bq h (.ref n) 1003 3
abbrev P1:=V->H->Prop
structure Cy where
 K:jR
 fld:D->D->aD
 fI:D->D->av D
 call:V->ag V->P1->H->Prop
 X:Prop
 ba:aD
def zL(b:D->D->aD)(h:H)(o:V)(a:D)(v:V):Prop:=∃n c d,o= .ref n/\h[n]? =ae (.inst c d)/\b c a=am/\d.lookup a=ae v
def qh(d:D->D->aD)(h:H)(o:V)(a:D)(v:V)(e:H):Prop:=∃n c b,o= .ref n/\h[n]? =ae (.inst c b)/\d c a=am/\Y7 b<=900/\e=h.set n (.inst c (setField a v b))
def Fy(b:D->D->av D)(h:H)(o:V)(a f:D):Prop:=∃n c d,o= .ref n/\h[n]? =ae (.inst c d)/\b c a=ae f/\d.lookup a=ax
theorem zL.i{b:D->D->aD}{h:H}{n c a:D}{d:ag (D×V)}{v:V}(g:h[n]? =ae (.inst c d))(f:b c a=am)(l:d.lookup a=ae v):zL b h (.ref n) a v:=⟨n,c,d,rfl,g,f,l⟩
theorem qh.i{b:D->D->aD}{h:H}{n c a:D}{d:ag (D×V)}{v:V}(g:h[n]? =ae (.inst c d))(f:b c a=am)(l:(Y7 d)<=900):qh b h (.ref n) a v (h.set n (.inst c (setField a v d))):=⟨n,c,d,rfl,g,f,l,rfl⟩
theorem Fy.i{b:D->D->av D}{h:H}{n c a f:D}{d:ag (D×V)}(g:h[n]? =ae (.inst c d))(m:b c a=ae f)(l:d.lookup a=ax):Fy b h (.ref n) a f:=⟨n,c,d,rfl,g,m,l⟩
def Rj(L:bS)(i:D)(v:V):Prop:=L[i]? =ae (ae v)
abbrev wV:=bS->P1->H->Prop
abbrev wB:=bS->(aD->H->Prop)->H->Prop
def Gu(C:Cy)(g:V)(a:ag V)(Q:P1)(h:H):Prop:=match g with
 | .bi b=>∃v,nD C.K h b a v/\Q v h
 | .ty t=>∃v c,Fu C.ba C.K h t a v c/\Q v c
 |g=>C.call g a Q h
def rY(C:Cy)(a:D)(b:V)(w:(ag V->H->Prop)->H->Prop)(Q:P1)(h:H):Prop:=
 if a<1000 then∃f,Fy C.fI h b a f/\w (λc=>C.call (.fn f) (b::c) Q) h
 else∃t,Bq h b a t/\w (λc h=>∃v d,Bp C.ba h t b a c v d/\Q v d) h
def xB(Q:aD->H->Prop)(v:V)(h:H):Prop:=∃t,JI v=ae t/\Q t h
noncomputable def Ce(f:wV):wV×wB:=(f,λL Q=>f L (xB Q))
noncomputable def JL(f:wV):wV×wB:=(f,λa a a=>bA)
noncomputable def Xt(f:wB):wV×wB:=(λL Q=>f L λt=>Q (.bool t),f)
noncomputable def DX(K:jR)(x:V)(b:ag V)(f:V->P1->H->Prop)(N:D)(Q:P1):ag V->H->Prop
 |[],h=>Look K h x (.list b)/\Q (.ref N) h
 |v::r,h=>Look K h x (.list b)/\f v (λy h=>∃a,h[N]? =ae (.list a)/\Y7 a<=dW/\DX K x b f N Q r (h.set N (.list (a++[y])))) h
mutual
noncomputable def wE(C:Cy):E->wV×wB
 | .c v=>Ce λq Q=>Q v
 | .l i=>Ce λL Q h=>∃v,Rj L i v/\Q v h
 | .at e a=>Ce λL Q=>(wE C e).1 L λo h=>∃v,zL C.fld h o a v/\Q v h
 | .ca f n=>Ce λL Q=>(wE C f).1 L λg=>oh C n L λj=>Gu C g j Q
 | .me o a n=>Ce λL Q=>(wE C o).1 L λs=>rY C a s (oh C n L) Q
 | .dy m l r=>JL λL Q=>(wE C l).1 L λa=>(wE C r).1 L λb h=>∃v k,tA C.K h m a b v k/\Q v k
 | .neg e=>JL λL Q=>(wE C e).1 L λv h=>∃i,v= .int i/\Q (.int (-i)) h
 | .cj m l r=>(λL Q=>(wE C l).1 L λa=>(wE C r).1 L λb h=>∃t,kg C.K h m a b t/\Q (.bool t) h,
  λL Q=>(wE C l).1 L λa=>(wE C r).1 L λb h=>∃t,kg C.K h m a b t/\Q t h)
 | .jQ w u a b c=>Xt λL Q=>(wE C a).1 L λx=>(wE C b).1 L λy h=>∃t,kg C.K h w x y t/\(if t then(wE C c).1 L (λz h=>∃t,kg C.K h u y z t/\Q t h) h else Q ai h)
 | .du d=>(wA C true d,NZ C true d)
 | .jr d=>(wA C ai d,NZ C ai d)
 | .lu e=>(λL Q=>(wE C e).1 L (xB λt=>Q (.bool !t)),λL Q=>(wE C e).2 L λt=>Q (!t))
 | .jP t b o=>(λL Q=>(wE C t).2 L λc=>if c then(wE C b).1 L Q else(wE C o).1 L Q,λL Q=>(wE C t).2 L λc=>if c then(wE C b).2 L Q else(wE C o).2 L Q)
 | .bq d=>JL λL Q=>oh C d L λj h=>Q (.ref h.length) (h++[.bq j])
 | .eS d=>JL λL Q=>oh C d L λj h=>Q (.ref h.length) (h++[.list j])
 | .QU=>JL λq Q h=>Q (.ref h.length) (h++[.dict []])
 | .sub o i=>Ce λL Q=>(wE C o).1 L λa=>(wE C i).1 L λb h=>∃v,yw C.K h a b v/\Q v h
 | .hO o A B=>JL λL Q=>(wE C o).1 L λa=>wO C A L λx=>wO C B L λy h=>∃v k,yr C.K h a x y v k/\Q v k
 | .JR e=>JL λL Q h=>C.ba=ai/\(wE C e).1 L (λx h=>∃p,DX C.K x p (λv Q h=>∃y,yw C.K h v (.int 0) y/\Q y h) h.length Q p (h++[.list []])) h
termination_by structural x=>x
noncomputable def oh(C:Cy):ag E->bS->(ag V->H->Prop)->H->Prop
 |[],_,Q=>Q []
 |e::r,L,Q=>(wE C e).1 L λv=>oh C r L λa=>Q (v::a)
termination_by structural x=>x
noncomputable def wO(C:Cy):av E->wV
 |none,_,Q=>Q .none
 |some e,L,Q=>(wE C e).1 L Q
termination_by structural x=>x
noncomputable def wA(C:Cy)(a:aD):ag E->wV
 |[],_,_=>λb=>bA
 |e::r,L,Q=>(wE C e).1 L λv=>if r.isEmpty then Q v else xB (λt=>if t=a then wA C a r L Q else Q v) v
termination_by structural x=>x
noncomputable def NZ(C:Cy)(a:aD):ag E->wB
 |[],_,Q=>Q a
 |e::r,L,Q=>(wE C e).2 L λt=>if t=a then NZ C a r L Q else Q !a
termination_by structural x=>x
end
abbrev PS:=Fl->bS->H->Prop
noncomputable def cx(L:bS)(i:D)(v:V):bS:=L.set i (ae v)
noncomputable def ip(L:bS)(b:ag D)(a:ag V):bS:=(b.zip a).foldl (λL p=>cx L p.1 p.2) L
def NY(C:Cy)(v:V):T->bS->(bS->H->Prop)->H->Prop
 | .n i,L,Q=>Q (cx L i v)
 | .at e a,L,Q=>(wE C e).1 L λo h=>∃b,qh C.fld h o a v b/\Q L b
 | .su o i,L,Q=>(wE C o).1 L λf=>(wE C i).1 L λg h=>∃b,PQ h f g v b/\Q L b
 | .tu d,L,Q=>λh=>∃c,Look C.K h v (.bq c)/\Y7 c=Y7 d/\Q (ip L d c) h
def Xm(t:wB)(b:bS->PS->H->Prop)(L:bS)(Q:PS)(h:H):Prop:=
 ∃(a:D->bS->H->Prop) (n:D),a n L h/\∀n L h,a n L h->t L (λc=>if c then b L λf e d=>match f with
  | .next=>∃m,m<n/\a m e d
  | .brk=>Q .next e d
  | .ret v=>Q (.ret v) e d
  else Q .next L) h
noncomputable def Ah(K:jR)(x:V)(a:ag V)(b:D->V->bS->PS->H->Prop)(Q:PS):ag V->D->bS->H->Prop
 |[],_,L,h=>Look K h x (.list a)/\Q .next L h
 |v::r,n,L,h=>Look K h x (.list a)/\b n v L (λd c=>match d with
  | .next=>Ah K x a b Q r (n+1) c
  | .brk=>Q .next c
  | .ret v=>Q (.ret v) c) h
noncomputable def zn:Operator->aD
 | .Add| .Sub=>am
 |_=>ai
def FC(c:Operator)(a b:V)(i:aF):Prop:=∃x y,a= .int x/\b= .int y/\qz c x y=ae i
mutual
noncomputable def wX(C:Cy):S->bS->PS->H->Prop
 | .ex e,L,Q=>(wE C e).1 L λf=>Q .next L
 | .as t e,L,Q=>(wE C e).1 L λv=>NY C v t L λp=>Q .next p
 | .JV i g e,L,Q=>λh=>∃o,Rj L i o/\(wE C e).1 L (λv h=>∃k,FC g o v k/\Q .next (cx L i (.int k)) h) h
 | .v7 o a g e,L,Q=>(wE C o).1 L λm h=>∃w,zL C.fld h m a w/\(wE C e).1 L (λv h=>∃k n,FC g w v k/\qh C.fld h m a (.int k) n/\Q .next L n) h
 | .jC t b o,L,Q=>(wE C t).2 L λc=>if c then cD C b L Q else cD C o L Q
 | .wh t b,L,Q=>Xm (wE C t).2 (cD C b) L Q
 | .fo i l b,L,Q=>(wE C l).1 L λx h=>∃d,Ah C.K x d (λf v L=>cD C b (cx L i v)) Q d 0 L h
 | .QP i j l b,L,Q=>(wE C l).1 L λx h=>∃d,Ah C.K x d (λk v L=>cD C b (cx (cx L i (.int k)) j v)) Q d 0 L h
 | .re none,L,Q=>Q (.ret .none) L
 | .re (ae e),L,Q=>(wE C e).1 L λv=>Q (.ret v) L
 | .br,L,Q=>Q .brk L
 | .pa,L,Q=>Q .next L
 | .ra e,L,Q=>(wE C e).1 L λf f=>C.X
termination_by structural x=>x
noncomputable def cD(C:Cy):ag S->bS->PS->H->Prop
 |[],L,Q=>Q .next L
 |s::r,L,Q=>wX C s L λb a=>match b with
  | .next=>cD C r a Q
  |f=>Q f a
termination_by structural x=>x
end
def Mp(C:Cy)(a:FI)(b:ag V)(Q:P1)(h:H):Prop:=(Y7 b)=a.np/\cD C a.body (b.map ae++cE (a.nl-a.np) ax) (λc d=>match c with
 | .ret v=>Q v
 |_=>Q .none) h
structure JG where
 K:jR
 fld:D->D->aD
 fn:D->av FI
 fI:D->D->av D
 init:D->av (D×ag V)
noncomputable def JG.call(P:JG)(a:aD)(X:Prop):D->V->ag V->P1->H->Prop
 |0,_,_,_,_=>bA
 |n+1,f,e,Q,h=>match f with
  | .fn i=>∃b,P.fn i=ae b/\Mp ⟨P.K,P.fld,P.fI,P.call a X n,X,a⟩ b e Q h
  | .cls c=>∃i d,P.init c=ae (i,d)/\P.call a X n (.fn i) (.ref h.length::(e++d)) (λv g=>v= .none/\Q (.ref h.length) g) (h++[.inst c []])
  |_=>bA
theorem cps{P:Prop}(h:∀G:Prop,(P->G)->G):P:=h P id
theorem nn{α:Type}{x:α}{P:Prop}(h:ax=ae x):P:=nomatch h
theorem ft{P:Prop}(h:ai=am):P:=nomatch h
theorem si{α:Type}{a b:α}(h:ae a=ae b):a=b:=aT h
theorem QA{α β:Type}{a c:α}{b d:β}(h:(a,b)=(c,d)):a=c/\b=d:=Prod.mk.inj h
end Mi
end
section
namespace Mi
open PySem PySem.W PySem.Calls PyProof.Rows
structure kq where
 dK:D->bR
 qL:D->bk
 iB:D->bk
 kA:D->bk
 Aj:D->fK
 HC:D->fK
 hv:V->aF
noncomputable abbrev fD:=ag (bk×bk)
def VR(T:kq)(ρ:fD)(v:V)(x:ay):Prop:=match v with
 | .none=>x= .none
 | .bool b=>x= .bool b
 | .int i=>∃t,x= .int i t
 | .str s=>∃y t,x= .str y t/\y.cps.toList=s
 | .bytes b=>∃y t,x= .bytes y t/\y.toList.map fz=b
 | .fn i=>x= .ref (T.qL i)
 | .cls c=>x= .ref (T.iB c)
 | .aV k=>x= .ref (T.kA k)
 | .ref n=>∃a d,x= .ref a/\ρ[n]? =ae (a,d)
 | .ty t=>x= .type (T.Aj t)
 | .bi b=>x= .builtin (T.HC b)
inductive fe{α β:Type}(R:α->β->Prop):ag α->ag β->Prop
 |nil:fe R [] []
 |cons {a:α} {b:β} {as:ag α} {bs:ag β} (h:R a b) (t:fe R as bs):fe R (a::as) (b::bs)
abbrev iD(T:kq)(ρ:fD):ag V->ag ay->Prop:=fe (VR T ρ)
abbrev FR(T:kq)(ρ:fD):ag (D×V)->ag dX->Prop:=fe λf e=>(∃tk,e.key= .str (T.dK f.1) tk)/\VR T ρ f.2 e.val
abbrev DR(T:kq)(ρ:fD):ag (V×V)->ag dX->Prop:=fe λf e=>VR T ρ f.1 e.key/\e.hash=T.hv f.1/\VR T ρ f.2 e.val
namespace fe
variable{α β u j:Type}{R:α->β->Prop}{S:u->j->Prop}
theorem imp{e:α->β->Prop}(k:∀a b,R a b->e a b){d:ag α}{c:ag β}(h:fe R d c):fe e d c:=by
 induction h with
 |nil=>exact .nil
 |cons h _ f=>exact .cons (k _ _ h) f
theorem length{b:ag α}{a:ag β}(h:fe R b a):(Y7 a)=(Y7 b):=by
 induction h with
 |nil=>rfl
 |cons _ _ c=>exact aL vP c
theorem append{d b:ag α}{c a:ag β}(h:fe R d c)(f:fe R b a):fe R (d++b) (c++a):=by
 induction h with
 |nil=>exact f
 |cons h _ e=>exact .cons h e
theorem get{d:ag α}{c:ag β}(h:fe R d c):∀{i:D} {a:α},d[i]? =ae a->∃b,c[i]? =ae b/\R a b:=by
 induction h with
 |nil=>exact λe=>nomatch e
 |cons h _ f=>exact λ{i a} e=>match i with
  |0=>(aW _ rfl (aT e▸h))
  |i+1=>f (i:=i) e
theorem set{a:α}{b:β}(q:R a b){d:ag α}{c:ag β}(h:fe R d c):∀{i:D},fe R (d.set i a) (c.set i b):=by
 induction h with
 |nil=>exact .nil
 |cons h t e=>exact λ{i}=>match i with
  |0=> .cons q t
  |i+1=> .cons h (e (i:=i))
theorem reverse{b:ag α}{a:ag β}(h:fe R b a):fe R b.reverse a.reverse:=by
 induction h with
 |nil=>exact .nil
 |cons h _ c=>exact I qE (I qE (c.append (.cons h .nil)))
theorem take{b:ag α}{a:ag β}(h:fe R b a):∀(i:D),fe R (b.take i) (a.take i):=by
 induction h with
 |nil=>exact λi=>I kH (I kH .nil)
 |cons h _ c=>exact λi=>match i with
  |0=> .nil
  |i+1=> .cons h (c i)
theorem drop{b:ag α}{a:ag β}(h:fe R b a):∀(i:D),fe R (b.drop i) (a.drop i):=by
 induction h with
 |nil=>exact λi=>I List.drop_nil (I List.drop_nil .nil)
 |cons h t c=>exact λi=>match i with
  |0=> .cons h t
  |i+1=>c i
theorem UC{γ:Type}{S:α->γ->Prop}{g:β->γ}(k:∀a b,R a b->S a (g b)){d:ag α}{c:ag β}(h:fe R d c):fe S d (c.map g):=by
 induction h with
 |nil=>exact .nil
 |cons h _ e=>exact .cons (k _ _ h) e
theorem dY{a:α}{c:ag β}(h:fe R [a] c):∃b,c=[b]/\R a b:=by
 cases h with|cons h t=>cases t;exact aW _ rfl h
theorem uT{a c:α}{bs:ag β}(h:fe R [a,c] bs):∃b d,bs=[b,d]/\R a b/\R c d:=by
 cases h with|cons h t=>refine iu bs_1 t.dY λd hd=>?_;exact nT _ _ rfl h hd
theorem mem{d:ag α}{c:ag β}(h:fe R d c):∀b∈c,∃a∈d,R a b:=by
 induction h with
 |nil=>exact λg m=>nomatch m
 |cons h _ f=>exact λb m=>(aZ.mp m).elim (λe=>(aW _ (.head _) (e▸h))) λm=>aM (f b m) λa x y=>(aW a (.tail _ x) y)
end fe
def Sub(ρ a:fD):Prop:=∀(n:D) (p:bk×bk),ρ[n]? =ae p->a[n]? =ae p
theorem Sub.refl(ρ:fD):Sub ρ ρ:=λa a h=>h
theorem Sub.trans{a b c:fD}(x:Sub a b)(y:Sub b c):Sub a c:=λn p h=>y n p (x n p h)
theorem Sub.append(ρ:fD)(l:fD):Sub ρ (ρ++l):=λn p h=>(bF (aY.mp h).1).trans h
theorem VR.fH{T:kq}{ρ b:fD}(s:Sub ρ b){v:V}{x:ay}(h:VR T ρ v x):VR T b v x:=by
 cases v<;>first|exact h|exact cY h λa d e g=>(dO a d e (s _ _ g))
theorem iD.fH{T:kq}{ρ a:fD}(s:Sub ρ a){v:ag V}{x:ag ay}(h:iD T ρ v x):iD T a v x:=h.imp λb b=>VR.fH s
def OR(T:kq)(ρ:fD)(h:cW)(a d:bk):O->Prop
 | .inst c m=>a≠d/\h.get? a=ae (vp (T.iB c) d)/\∃f n,h.get? d=ae {cls:= .type "dict",data:= .dict f n}/\FR T ρ m f.toList/\f.size<=1000
 | .list k=>∃g n,h.get? a=ae {cls:= .type "list",data:= .seq g n}/\iD T ρ k g.toList
 | .bq k=>∃g n,h.get? a=ae {cls:= .type "tuple",data:= .seq g n}/\iD T ρ k g.toList
 | .dict i=>(a==rI)=ai/\(i.map (·.1)).Nodup/\∃f n,h.get? a=ae {cls:= .type "dict",data:= .dict f n}/\DR T ρ i f.toList
 | .f7 b=>∃l,h.get? a=ae {cls:= .type "bytearray",data:= .bytearray l 0}/\l.toList.map fz=b
theorem OR.fH{T:kq}{ρ g:fD}{h m:cW}{a d:bk}{o:O}(s:Sub ρ g)(i:∀x,h.get? a=ae x->m.get? a=ae x)(A:∀x,h.get? d=ae x->m.get? d=ae x)
  (r:OR T ρ h a d o):OR T g m a d o:=by
 induction o with
 |inst c C=>exact by refine i7 r λn x f=>pC f λB k y z v=>?_;exact⟨n,i _ x,B,k,A _ y,z.imp λl l q=>⟨q.1,q.2.fH s⟩,v⟩
 |list p=>exact cY r λe n x y=>(dO e n (i _ x) (y.fH s))
 |bq p=>exact cY r λe n x y=>(dO e n (i _ x) (y.fH s))
 |dict w=>exact by refine i7 r λq t f=>cY f λe n x y=>?_;exact⟨q,t,e,n,i _ x,y.imp λl l q=>(bX (q.1.fH s) q.2.1 (q.2.2.fH s))⟩
 |f7 b=>exact aM r λe x y=>(aW e (i _ x) y)
def own(ρ:fD)(b:bk):Prop:=∃(n:D) (a d:bk),ρ[n]? =ae (a,d)/\(b=a\/b=d)
structure tv(T:kq)(hb:cW)(ρ:fD)(H:H)(h:cW):Prop where
 len:(Y7 ρ)=H.length
 keep:∀b o,hb.get? b=ae o->h.get? b=ae o
 obj:∀(n:D) o a d,H[n]? =ae o->ρ[n]? =ae (a,d)->OR T ρ h a d o
 xG:∀(n m:D) a d a' d',n≠m->ρ[n]? =ae (a,d)->ρ[m]? =ae (a',d')->a≠a'/\a≠d'/\d≠a'/\d≠d'
 new:∀b,own ρ b->hb.get? b=ax/\∃o,h.get? b=ae o
structure Fm(X:bk->Prop)(h₀:cW)(ρ₀:fD)(h:cW)(ρ:fD):Prop where
 nq:∀b o,h₀.get? b=ae o->¬own ρ₀ b->¬X b->h.get? b=ae o
 sub:Sub ρ₀ ρ
 fresh:∀b,own ρ b->own ρ₀ b\/h₀.get? b=ax
theorem yB{ρ c:fD}(s:Sub ρ c){b:bk}(h:own ρ b):own c b:=wW h λn a d q w=>(oK n a d (s _ _ q) w)
theorem gG{h:cW}{b:bk}{o:A2}(e:h.get? b=ae o)(n:h.get? b=ax){P:Prop}:P:=by rw[e] at n;cases n
theorem lG(h:cW)(b:bk):h.get? b=ax\/∃o,h.get? b=ae o:=by
 cases h.get? b with
 |none=>exact .inl J
 |some o=>exact .inr ⟨o,rfl⟩
theorem cz{h:cW}{b:bk}(c:h.objs.size<=b):h.get? b=ax:=
 (lG h b).elim id λa=>cs a λd e=>cq (hB e) (pU.mpr c)
abbrev iN:bk->Prop:=λa=>bA
theorem Fm.refl(X:bk->Prop)(h:cW)(ρ:fD):Fm X h ρ h ρ:=⟨λa a e a a=>e,Sub.refl ρ,λa e=> .inl e⟩
theorem Fm.trans{X:bk->Prop}{g c h:cW}{a f d:fD}(x:Fm X g a c f)(p:∀b,own a b->∃o,c.get? b=ae o)(y:Fm X c f h d)(l:∀b,X b->∃o,c.get? b=ae o):Fm X g a h d where
 nq b o e n nx:=y.nq b o (x.nq b o e n nx) (λq=>(x.fresh b q).elim n λz=>gG e z) nx
 sub:=x.sub.trans y.sub
 fresh b e:=(y.fresh b e).elim (λq=>x.fresh b q) λz=>(lG g b).elim .inr λi=>cs i λo q=>(NU (own a b)).elim .inl λw=>
  (NU (X b)).elim (λv=>cs (l b v) λm k=>gG k z) λv=>gG (x.nq b o q w v) z
theorem Fm.rR{X Y:bk->Prop}{f d:cW}{c a:fD}(k:∀b,X b->Y b)(x:Fm X f c d a):Fm Y f c d a:=
 ⟨λb o e n g=>x.nq b o e n λq=>g (k b q),x.sub,x.fresh⟩
section
variable{T:kq}{hb:cW}{ρ:fD}{H:Mi.H}{h:cW}
theorem tv.Sb(r:tv T hb ρ H h){b:bk}{o:A2}(e:hb.get? b=ae o):¬own ρ b:=λq=>gG e (r.new b q).1
theorem tv.F5(r:tv T hb ρ H h){c:cW}(k:∀b o,own ρ b->h.get? b=ae o->c.get? b=ae o)(f:∀b o,hb.get? b=ae o->c.get? b=ae o):tv T hb ρ H c where
 len:=r.len
 keep:=f
 obj n o a d e q:=(r.obj n o a d e q).fH (Sub.refl ρ) (λx=>k a x (oK n a d q (.inl J))) (λx=>k d x (oK n a d q (.inr J)))
 xG:=r.xG
 new b q:=⟨(r.new b q).1,cs ((r.new b q).2) λo e=>⟨o,k b o q e⟩⟩
theorem tv.Ju(r:tv T hb ρ H h){a:cW}(k:∀b o,h.get? b=ae o->a.get? b=ae o):tv T hb ρ H a:=
 r.F5 (λb o c=>k b o) λb o e=>k b o (r.keep b o e)
theorem Fm.Ju(X:bk->Prop)(ρ:fD){h a:cW}(k:∀b o,¬X b->h.get? b=ae o->a.get? b=ae o):Fm X h ρ a ρ:=
 ⟨λb o e c d=>k b o d e,Sub.refl ρ,λc e=> .inl e⟩
theorem tv.other(r:tv T hb ρ H h){L:bk}{a:cW}(c:¬own ρ L)(lL:hb.get? L=ax)(k:∀b o,b≠L->h.get? b=ae o->a.get? b=ae o):tv T hb ρ H a:=
 r.F5 (λb o w e=>k b o (λq=>c (q▸w)) e) λb o e=>k b o (λq=>gG e (q▸lL)) (r.keep b o e)
theorem lD{α:Type}{l:ag α}{x y:α}{n:D}(e:(l++[x])[n]? =ae y):l[n]? =ae y\/n=Y7 l/\x=y:=by
 rcases Nat.lt_trichotomy n (Y7 l) with q|q|q
 ·exact .inl ((bF q).symm.trans e)
 ·revert e;exact I q λe=> .inr ⟨rfl,aT (bD.symm.trans e)⟩
 ·rw[dF (I au q)] at e;exact nn e
theorem qP{a d:bk}{b:bk}(e:own (ρ++[(a,d)]) b):own ρ b\/b=a\/b=d:=by
 refine wW e λn f c q w=>?_;rcases lD q with q|⟨_,q⟩
 ·exact .inl (oK n f c q w)
 ·obtain⟨rfl,rfl⟩:=QA q;exact .inr w
theorem tv.RS(r:tv T hb ρ H h){p:cW}{a d:bk}{o:O}(k:∀b o,own ρ b->h.get? b=ae o->p.get? b=ae o)(F:∀b o,hb.get? b=ae o->p.get? b=ae o)(ga:h.get? a=ax)(t:h.get? d=ax)(E:∃o,p.get? a=ae o)(ld:∃o,p.get? d=ae o)
  (w:OR T (ρ++[(a,d)]) p a d o):tv T hb (ρ++[(a,d)]) (H++[o]) p where
 len:=I au (I au (I r.len J))
 keep:=F
 obj n o' a' d' e q:=by
  rcases lD e with e|⟨rfl,rfl⟩
  ·rcases lD q with q|⟨q,_⟩
   ·exact(r.obj n o' a' d' e q).fH (Sub.append ρ _) (λx=>k a' x (oK n a' d' q (.inl J))) (λx=>k d' x (oK n a' d' q (.inr J)))
   ·exact cq (aY.mp e).1 (I q (I r.len (kF _)))
  ·rcases lD q with q|⟨_,q⟩
   ·exact cq (aY.mp q).1 (I r.len (kF _))
   ·obtain⟨rfl,rfl⟩:=QA q;exact w
 xG n m a₁ d₁ a₂ d₂ nm s g:=by
  have i:∀{x y:bk},h.get? x=ax->own ρ y->x≠y:=λz w q=>cs ((r.new _ w).2) λo e=>gG (q▸e) z;rcases lD s with f|⟨f,A⟩
  ·rcases lD g with c|⟨c,v⟩
   ·exact r.xG n m _ _ _ _ nm f c
   ·refine wP a₂ (QA v) λl=>?_;exact sb l (qG ((i ga (oK n _ _ f (.inl J))).symm) ((i t (oK n _ _ f (.inl J))).symm) ((i ga (oK n _ _ f (.inr J))).symm) ((i t (oK n _ _ f (.inr J))).symm))
  ·refine wP a₁ (QA A) λl=>?_;refine sb l ?_;rcases lD g with c|⟨c,_⟩
   ·exact qG (i ga (oK m _ _ c (.inl J))) (i ga (oK m _ _ c (.inr J))) (i t (oK m _ _ c (.inl J))) (i t (oK m _ _ c (.inr J)))
   ·exact cq (f.trans c.symm) nm
 new b q:=by
  have C:∀{x:bk},h.get? x=ax->hb.get? x=ax:=λ{x} z=>(lG hb x).elim id λB=>cs B λo e=>gG (r.keep x o e) z;rcases qP q with q|rfl|rfl
  ·exact⟨(r.new b q).1,cs ((r.new b q).2) λo e=>⟨o,k b o q e⟩⟩
  ·exact⟨C ga,E⟩
  ·exact⟨C t,ld⟩
theorem Fm.push(X:bk->Prop)(ρ:fD){h c:cW}{a d:bk}(k:∀b o,¬X b->h.get? b=ae o->c.get? b=ae o)(ga:h.get? a=ax)(g:h.get? d=ax):Fm X h ρ c (ρ++[(a,d)]):=
 ⟨λb o e i f=>k b o f e,Sub.append ρ _,λb e=>(qP e).imp id λw=>w.elim (λw=>w▸ga) λw=>w▸g⟩
theorem tv.wZ(r:tv T hb ρ H h){h':cW}{n:D}{a d x:bk}{i:O}(q:ρ[n]? =ae (a,d))(f:x=a\/x=d)(s:kR x h h')(w:OR T ρ h' a d i)(B:∃o,h'.get? x=ae o):
  tv T hb ρ (H.set n i) h' where
 len:=I bC r.len
 keep b o e:=(s.2 b λz=>r.Sb e (oK n a d q (z▸f))).trans (r.keep b o e)
 obj m o a₂ d₂ e c:=by
  by_cases g:n=m
  ·revert e c;refine sb g λe c=>?_;rw[q] at c;cases c;have k:=(aY.mp e).1;rw[fN (by rw[bC] at k;exact k)] at e;exact sb (si e) w
  ·rw[fC g] at e;exact rQ (r.xG n m _ _ _ _ g q c) λv t p l=>(r.obj m o a₂ d₂ e c).fH (Sub.refl ρ) (λy z=>(s.2 a₂ λe=>f.elim (λw=>v (w.symm.trans e.symm)) λw=>p (w.symm.trans e.symm)).trans z)
    (λy z=>(s.2 d₂ λe=>f.elim (λw=>t (w.symm.trans e.symm)) λw=>l (w.symm.trans e.symm)).trans z)
 xG:=r.xG
 new b z:=⟨(r.new b z).1,(NU (b=x)).elim (λe=>e▸B) λe=>cs ((r.new b z).2) λo A=>⟨o,(s.2 b e).trans A⟩⟩
theorem Fm.wZ(X:bk->Prop){h h':cW}{n:D}{a d x:bk}(q:ρ[n]? =ae (a,d))(g:x=a\/x=d)(s:kR x h h'):Fm X h ρ h' ρ:=
 ⟨λb o e f c=>(s.2 b λw=>f (oK n a d q (w▸g))).trans e,Sub.refl ρ,λc e=> .inl e⟩
end
end Mi
end
set_option backward.match.sparseCases true
section
namespace Mi
open PySem PySem.W PySem.Calls PyProof.Rows
open Sem (wp)
structure Gl where
 prog:dZ
 w:dj
 T:kq
 hb:cW
 L₀:bk
 d₀:Data
 X₀:bk
 xM:D->av (bk×bk)
noncomputable abbrev Gl.M(G:Gl):lP:=bP G.prog G.w
def Gl.qJ(G:Gl)(h:cW):Prop:=∃o,h.get? G.L₀=ae o/\o.data=G.d₀/\∀a,o.data≠.fields a
structure zq(G:Gl)(A:cG)(X:bk->Prop)(ρ:fD)(h:cW):Prop where
 fr:∃fs,A.frames=ae fs/\h.FunFrames G.hb fs/\∀aJ∈fs,∀L,aJ.frame=ae L->¬own ρ L
 qJ:G.qJ h
 nl:¬own ρ G.L₀
 x:∀b,X b->(∃o,h.get? b=ae o)/\¬own ρ b
 xM:∀n p,G.xM n=ae p->ρ[n]? =ae p
theorem lK{a h j:cW}{Y:bk->Prop}:∀{d:ag rP},h.FunFrames a d->(∀c∈d,∀L,c.frame=ae L->¬Y L)->(∀b o,h.get? b=ae o->¬Y b->j.get? b=ae o)->j.FunFrames a d:=by
 intro d;induction d with
 |nil=>exact λf f f=>trivial
 |cons c r l=>
  intro q g k;exact uS q.2.1 λL o i n m s=>(bX q.1 (tV L o i n (k L o m (g c (.head _) L i)) s) (l q.2.2 (λe p=>g e (.tail _ p)) k))
theorem r8{c h:cW}:∀{d:ag rP},h.FunFrames c d->∀a∈d,∀L,a.frame=ae L->∃o,h.get? L=ae o:=by
 intro d;induction d with
 |nil=>intro _ a b;cases b
 |cons f r j=>
  intro h a b L e;refine i7 h λg i k=>?_;refine uS i λg o m g l g=>?_;rcases aZ.mp b with q|b
  ·subst q;rw[m] at e;exact sb (si e) (⟨o,l⟩)
  ·exact j k a b L e
theorem zq.fm{G:Gl}{A:cG}{X:bk->Prop}{ρ a:fD}{h s:cW}(y:zq G A X ρ h)(f:Fm iN h ρ s a):zq G A X a s:=by
 obtain⟨⟨E,x,t,j⟩,⟨o,l,B,w⟩,k,u,v⟩:=y;have nn:∀{b:bk} {o:A2},h.get? b=ae o->¬own ρ b->¬own a b:=λ{b o} e n q=>(f.fresh b q).elim n λz=>by rw[z] at e;exact nn e
 refine⟨(bQ E x (lK t j λb o e n=>f.nq b o e n id) (λc m L r=>?_)),(bQ o (f.nq _ _ l k id) B w),nn l k,λb C=>?_,λn p h=>f.sub _ _ (v n p h)⟩
 ·exact cs (r8 t c m L r) λi d=>nn d (j c m L r)
 ·refine cv (u b C) λg n=>cs g λi d=>?_;exact⟨⟨i,f.nq b i d n id⟩,nn d n⟩
def SV(G:Gl)(e:bk)(h:cW):Prop:=∃b a c,h.get? e=ae b/\b.cls= .ref G.X₀/\b.data= .fields a/\a[1]? =ae .none/\a[0]? =ae c
structure uQ(G:Gl)(A:cG)(L:bk)(n:aD)(e:bk)(h:cW):Prop where
 mK:G.hb.StaysIn h
 new:G.hb.get? e=ax
 fr:∃fs,A.frames=ae fs/\h.FunFrames G.hb fs
 qJ:G.qJ h
 JQ:(n=am/\SV G e h)\/∃a0,h.TracedAtW G.hb e (.ref G.X₀) a0 .none\/h.TracedAtW G.hb e (.ref G.X₀) a0 (DI L)
def NL(G:Gl)(A:cG)(e:bk)(h:cW):Prop:=∃a b,A.frames=ae a/\Heap.FlyingW G.hb a e (.ref G.X₀) b h/\G.qJ h
theorem NL.body{G:Gl}{A:cG}{e:bk}{h:cW}(L:bk)(n:aD)(x:NL G A e h):uQ G A L n e h:=by
 refine pC x λc j b a l=>?_;refine rQ a λi g f d=>?_;exact⟨i,g,(aW c b f),l,.inr ⟨j,.inl d.at⟩⟩
theorem uQ.UE{G:Gl}{A:cG}{L e:bk}{h:cW}{n:aD}(x:uQ G A L ai e h):uQ G A L n e h:=
 ⟨x.mK,x.new,x.fr,x.qJ,x.JQ.elim (λq=>BC q.1) .inr⟩
theorem Gl.qJ.slots{G:Gl}{h b:cW}(x:G.qJ h)(k:h.UpToSlots b):G.qJ b:=by
 refine kh x λo d e a=>?_;exact cs (k _ o d a) λf c=>bQ _ c e a
section
variable{G:Gl}{A:cG}{E:ay->aA->Prop}{s:aA}
theorem EI{c:rP}{outer:ag rP}{L e:bk}{n:aD}{Q:xj->aA->Prop}(d:A.frames=ae (c::outer))(C:c.frame=ae L)(x:uQ G A L n e s.heap)
  (h:∀a b,Heap.FlyingW G.hb outer e (.ref G.X₀) b a->G.qJ a->Q () {s with heap:=a}):cu G.M A (GF c (.ref e)) Q E s:=by
 obtain⟨p,j,⟨U,f,F⟩,H,z⟩:=x;rw[d] at f;cases f;have i:∀a b,Heap.LeftW G.hb (c::outer) e (.ref G.X₀) b s.heap a->Q () {s with heap:=a}:=λa b m=>rQ m λy r v u=>i7 r λo o w=>h a b (qG y j w v) (H.slots u);rcases z with⟨-,T,S,b,K,O,N,P,R⟩|⟨b,t|t⟩
 ·exact wpAny_leaving_firstW d F C K p j N P R λa l=>i a b (O▸l)
 ·exact wpAny_leaving_nextW d F C t p j λa l=>i a b l
 ·unfold GF;refine aB (W1 C t (wpAny_landsW (qG p j F t) λa B k=>rQ B λy w q u=>?_));refine i7 q λo o v=>?_;exact h a b (qG y w v u) (H.slots k)
theorem E7{j:rP}{l:ag rP}{L e:bk}(u:A.frames=some (j::l))(Z:j.frame=some L)(x:uQ G A L ai e s.heap)
  (h:∀P,uQ G A L ai e P->E (.ref e) {s with heap:=P}):pi G.M A j E (.ref e) s:=by
 obtain⟨V,X,⟨fs,r,ff⟩,Y,B⟩:=x;rw[u] at r;cases r;refine cs (B.resolve_left λq=>BC q.1) λS t=>?_;have Q:∀R,s.heap.TracedAtW G.hb e (.ref G.X₀) S R->pi G.M A j E (.ref e) s:=λR t=>by
  refine GV t λW y T oT z=>?_;refine NW z λU C hc v H n=>?_;refine A4 n λp w F g h3=>?_;have k:=(pX.mp h3).1;unfold pi;refine aB (jz C v H (cM (show¬((JZ T==Value.none)=am) from by simp) ?_));have c:∀b,b≠T->(s.heap.update T (Obj.mapFields (·.setIfInBounds 3 ((some L:av bk).elim Value.none λf=>DI f)))).get? b=s.heap.get? b:=
   λb i=>nQ _ _ (pr i);have a:∀b o,s.heap.get? b=some o->(∀y,o.data≠.fields y)->b≠T:=λb o i d q=>by
   rw[q,F] at i;injection i with i;revert d;exact sb i λd=>d U g
  unfold setFlight;refine I Z (aB (jz C v H (dG (show(JZ T !=Value.none)=am from by simp) (wpAny_setField F g k (h _ ⟨λb o m=>(c b λq=>by rw[q,p] at m;exact nn m).trans (V b o m),X,
   (aW _ u (ff.of_keeps λb o i d=>(aW o ((c b (a b o i d)).trans i) J))),?_,.inr ⟨S,.inr ?_⟩⟩)))))
  ·refine kh Y λo K v N=>?_;exact bQ o ((c _ (a _ _ K N)).trans K) v N
  ·exact(Qj W y T _ (Qk _ ((c e (pr w)).trans C) hc v H (GU p w (eF _ F (Obj.isFreed_of_fields (Obj.data_mapFields g _))) (Obj.data_mapFields g _) (by simp[k]))))
 exact t.elim (Q _) (Q _)
end
theorem ite_no{α:Type}{M:lP}{A:cG}{E:ay->aA->Prop}{Q:α->aA->Prop}{s:aA}{c:Prop}[Mg c]{t e:nE α}(h:¬c)(k:cu M A e Q E s):cu M A (if c then t else e) Q E s:=cM h k
noncomputable def ze:{f:bk->T5×gz->aD//∀(M:lP) (Γ:Ctx) (a:bk) (Q:aD->aA->Prop) (E:ay->aA->Prop) (p:gz) (s:aA),Q (((Γ.code,p)::Γ.below).any (f a)) s->wp M Γ (Xa (.ref a)) (λb d c=>Q b c) (λe d c=>E e c) p s}:=⟨_,λM Γ a Q E p s h=>h⟩
def wx(c:T5):Prop:=∀a p,ze.1 a (c,p)=ai
def TR(Γ:Ctx):Prop:=∀x∈Γ.below,wx x.1
def Cl(Γ:Ctx):Prop:=wx Γ.code/\TR Γ
theorem yD{id:fK}(h:∀a p c,ze.1 a (.builtin id ⟨[],c⟩,p)=ai)(k:∀a p v r c,ze.1 a (.builtin id ⟨v::r,c⟩,p)=(Builtin.Bytes.sameRef v (.ref a)&&ai))(b:Args):wx (.builtin id b):=λa p=>by
 obtain⟨d,c⟩:=b;induction d with
 |nil=>exact h a p c
 |cons v r=>exact(k a p v r c).trans (lV _)
def cP{α:Type}(cl:aD)(M:lP)(A:cG)(t:nE α)(Q:α->aA->Prop)(E:ay->aA->Prop)(s:aA):Prop:=
 ∀Γ p,Γ.In A->(cl=am->Cl Γ)->wp M Γ t (λa c b=>Q a b) (λe c b=>E e b) p s
def fG(cl:aD)(M:lP)(A:cG)(c:T5)(R:lH->aA->Prop)(s:aA):Prop:=
 ∀Γ p,Γ.code=c->Γ.Below A->(cl=am->TR Γ)->wpCode M Γ R p s
section
variable{α β:Type}{cl:aD}{M:lP}{A:cG}{E:ay->aA->Prop}{s:aA}{R:lH->aA->Prop}
theorem cP.of{t:nE α}{Q:α->aA->Prop}(h:cu M A t Q E s):cP cl M A t Q E s:=λΓ p a b=>h Γ p a
theorem cP.any{t:nE α}{Q:α->aA->Prop}(h:cP ai M A t Q E s):cu M A t Q E s:=λΓ p a=>h Γ p a λe=>nomatch e
theorem cP.rR{t:nE α}{Q:α->aA->Prop}(h:cP ai M A t Q E s):cP cl M A t Q E s:= .of h.any
theorem aX{a:α}{Q:α->aA->Prop}(h:Q a s):cP cl M A (pure a) Q E s:= .of (aP h)
theorem fx{t:nE α}{Q c:α->aA->Prop}{d:ay->aA->Prop}(h:cP cl M A t Q E s)(i:∀a s,Q a s->c a s)(j:∀e s,E e s->d e s):cP cl M A t c d s:=
 λΓ p b g=>zO M Γ t (λa f s=>i a s) (λe f s=>j e s) p s (h Γ p b g)
theorem aG{m:nE α}{f:α->nE β}{Q:β->aA->Prop}(h:cP cl M A m (λa e=>cP cl M A (f a) Q E e) E s):cP cl M A (m>>=f) Q E s:=λΓ p b g=>I (Sem.wp_bind' ..) (zO M Γ m (λa i e c=>c Γ i b g) (λd d d c=>c) p s (h Γ p b g))
theorem fa{m:nE α}{k:ay->nE xj}{Q:α->aA->Prop}(h:cP cl M A m Q (λe f=>cP cl M A (k e) (λb c=>E e c) E f) s):cP cl M A (m.onRaise k) Q E s:=λΓ p a g=>I (Sem.wp_onRaise ..) (zO M Γ m (λb b b d=>d) (λe i f d=>d Γ i a g) p s (h Γ p a g))
theorem AK{m:nE α}{Q:Except ay α->aA->Prop}(h:cP cl M A m (λa=>Q (.ok a)) (λe=>Q (.error e)) s):cP cl M A m.attempt Q E s:=λΓ p b c=>I (Sem.wp_attempt ..) (h Γ p b c)
theorem fc{b:ag ay}{m:nE α}{Q:α->aA->Prop}(h:cP cl M A m Q E s):cP cl M A (jE b m) Q E s:=λΓ p a c=>I (Sem.wp_holding ..) (h Γ p a c)
theorem AJ{b:ag ay}{m:nE ay}{Q:ay->aA->Prop}(h:cP cl M A m Q E s):cP cl M A (PX b m) Q E s:=λΓ p a c=>I (Sem.wp_operate ..) (h Γ p a c)
theorem fR{a:gz}{Q:xj->aA->Prop}(h:Q () s):cP cl M A (iH a) Q E s:= .of (fA h)
theorem pQ{b a:ag ay}{Q:xj->aA->Prop}(h:Q () s):cP cl M A (release b a) Q E s:= .of (wpAny_release h)
theorem vU{Γ:Ctx}(h:Cl Γ)(c:T5)(b:av ay)(p:gz):TR (Γ.enter c b p):=λx a=>by
 rcases aZ.mp a with rfl|a
 ·exact h.1
 ·exact h.2 x a
theorem Kd{c:T5}{h:av ay}{Q:Bw->aA->Prop}(i:fG cl M (A.mark h) c (λr g=>match r with| .ok f=>Q f g| .error e=>E e g) s)(b:h≠ae byPass:=by intro x;cases x):
 cP cl M A (run c h) Q E s:=λΓ p a d=>I (Sem.wp_run ..) (i _ p J (a.enter c h p b) λe=>vU (d e) c h p)
theorem yS{c:T5}{Q:ay->aA->Prop}(f:fG cl M A c (λr d=>match r with| .ok (.ret v)=>Q v d| .ok _=>bA| .error e=>E e d) s):cP cl M A (runValue c) Q E s:=λΓ p a b=>I (Sem.wp_runValue ..) (f _ p J (a.enter c ax p (by intro x;exact nn x)) λe=>vU (b e) c ax p)
theorem lB{f:ay}{a:ag ay}{c:ag (bR×ay)}{Q:ay->aA->Prop}
 (d:fG cl M A (.call f ⟨a,c⟩) (λr b=>match r with| .ok (.ret v)=>Q v b| .ok _=>bA| .error e=>E e b) s):cP cl M A (cX f a c) Q E s:=yS d
theorem CQ{c:T5}{d:lH->aA->Prop}(h:fG cl M A c R s)(f:∀r s,R r s->d r s):fG cl M A c d s:=λΓ p e a b=>wpCode_mono f (h Γ p e a b)
theorem da{c:T5}(n:cl=am->wx c)
  (h:cP cl M (A.under c) (M.den c) (λa b=>match a with| .done f=>R (.ok f) b| .again j=>j.quiet=am/\fG cl M A j R b) (λe b=>R (.error e) b) s):fG cl M A c R s:=λΓ p k d g=>by
 rewrite[wpCode_iff_wp];refine I k (zO M Γ _ (λa m b i=>?_) (λl l l i=>i) p s (h Γ p (k▸d.in) λe=>⟨k▸n e,g e⟩));induction a with
 |done f=>exact i
 |again j=>exact⟨i.1,i.2 (Γ.goto j) m J (d.goto j) g⟩
end
section
variable{cl:aD}{prog:dZ}{w:dj}{A:cG}{E:ay->aA->Prop}{s:aA}{R:lH->aA->Prop}
theorem vZ{b:ag gZ}{a:rP}
  (h:cP cl (bP prog w) (A.deeper a) (nN b a) (λf g=>R (.ok (.ret (match f with| .ret v=>v|_=> .none))) g)
   (λe g=>cP cl (bP prog w) (A.deeper a) (GF a e) (λd c=>R (.error e) c) (λj c=>R (.error j) c) g) s):
  fG cl (bP prog w) A (.func b a) R s:=by
 refine da (λd d d=>rfl) (?_ :cP cl _ (A.deeper a) (do point;match<-(nN b a).onRaise (GF a) with| .ret v=>ret v|_=>ret .none) _ _ s);refine aG (.of (wpAny_point (aG (fa (fx h (λf g i=>?_) λd d i=>i)))));cases f<;>exact aX i
theorem lg{a:bk}{d:Args}{o:A2}{b:gQ}{k:ag gZ}(l:A.depth<nM)(G:s.heap.get? a=ae o)
  (y:o.data= .func b) (z:b.scope.isCoroutine=ai) (r:b.scope.isGenerator=ai) (n:b.body= .stmts k) (B:s.heap.CodeRec b.code b.qualname)
  (h:cP cl (bP prog w) A.in1 (bindArgs b d) (λg i=>
   cP cl (bP prog w) A.in1 (newFunctionEnv b.scope b.globals b.closure g (b.qualname++".<locals>.") (ae a) b.code ax b.builtins)
    (λt f=>f.heap.NoLimit/\fG cl (bP prog w) A (.func k t) R f) (λe u=>R (.error e) u) i) (λe u=>R (.error e) u) s):
  fG cl (bP prog w) A (.call (.ref a) d) R s:=by
 refine da (λp p p=>rfl) (?_ :cP cl _ A.in1 (callAny (.ref a) d) _ _ s);refine aG (.of (mI G (Ql B λc L H K E v x F=>?_)));refine I y (?_ :cP cl _ A.in1 (callFunction a b d) _ _ _);unfold callFunction;refine I E (I n (I r (I z ?_)));rw[E] at h;exact aG (m:=field (.ref c) 1) (.of (jz v x F (aG (aX (aG (fx h (λg i q=>aG (fx q (λt f j=>aG (.of (wpAny_enterFrame j.1 l
  (aX (And.intro J j.2))))) λp p C=>C)) λp p C=>C))))))
theorem qe{a:bk}{o:A2}{fd:gQ}{body:ag gZ}{j:Args}{c:ag (bR×ay)}
  (l:A.depth<nM) (E:s.heap.get? a=ae o) (m:o.data= .func fd) (t:s.heap.NoLimit) (B:s.heap.CodeRec fd.code fd.qualname)
  (p:fd.body= .stmts body) (q:GN s fd j c)
  (n:∀x∈fd.scope.names,x.2≠.cell) (r:∀x∈c,fd.scope.names.lookup x.1=ae .local)
  (h:∀d,d.Ns s.heap.objs.size (λx=>c.reverse.lookup x)->(∀b o,s.heap.get? b=ae o->d.get? b=ae o)->
   cP cl (bP prog w) (A.deeper (nO fd s.heap.objs.size a)) (nN body (nO fd s.heap.objs.size a)) (λf y=>R (.ok (.ret (match f with| .ret v=>v|_=> .none))) y)
    (λe y=>cP cl (bP prog w) (A.deeper (nO fd s.heap.objs.size a)) (GF (nO fd s.heap.objs.size a) e) (λH k=>R (.error e) k) (λG k=>R (.error G) k) y)
    {s with heap:=d,toks:=s.toks+Y7 c})
  (z:fd.scope.isCoroutine=ai) (u:fd.scope.isGenerator=ai) (F:fd.scope.kind= .function):
  fG cl (bP prog w) A (.call (.ref a) j) R s:=by
 refine lg l E m z u p B (.of (q _ _ _ _ (.of (wpAny_newFunctionEnv n r (λd i g=>⟨t.fresh _ g,vZ (h d i λb o e=>?_)⟩) F))));exact g.extBut b o (cr (hB e)) (aN _ e)
theorem qM{id:fK}{a:Args}{b:sL}(i:cl=am->wx (.builtin id a))(j:rM GD id=some b)
  (h:cP cl (bP prog w) (A.under (.builtin id a)) (b a) (λd c=>match d with| .done f=>R (.ok f) c| .again g=>g.quiet=am/\fG cl (bP prog w) A g R c) (λe c=>R (.error e) c) s):
  fG cl (bP prog w) A (.builtin id a) R s:=by
 refine da i (?_ :cP cl _ _ (match rM GD id with|some b=>b a|none=>unsupported ((withoutEnding? id "#data").getD id)) _ _ s);exact I j h
end
end Mi
end
set_option backward.match.sparseCases false
section
namespace Mi
open PySem PySem.W PySem.Calls PyProof.Rows
structure ul(G:Gl)(aU:ag bR)(aJ:rP)(L:bk):Prop where
 kind:aJ.scope.kind= .function
 Hi:aJ.locals=L
 var:∀(i:D) x,aU[i]? =ae x->aJ.kindOf x=ae .local
 nd:aU.Nodup
 iS:aJ.globals=eQ
 blt:aJ.builtins=rO
def LR(T:kq)(a:ag bR)(ρ:fD)(Lc:bS)(m:bR->av ay):Prop:=
 Lc.length=Y7 a/\∀(i:D) x v,a[i]? =ae x->Lc[i]? =ae (ae v)->∃y,m x=ae y/\VR T ρ v y
structure zx(G:Gl)(aU:ag bR)(L:bk)(ρ:fD)(Lc:bS)(h:cW):Prop where
 ns:∃m,h.Ns L m/\LR G.T aU ρ Lc m
 nl:¬own ρ L
 lo:G.hb.get? L=ax
 ne:L≠G.L₀
theorem LR.fH{T:kq}{e:ag bR}{ρ f:fD}(s:Sub ρ f){Lc:bS}{m:bR->av ay}(x:LR T e ρ Lc m):LR T e f Lc m:=
 ⟨x.1,λi n v a b=>aM (x.2 i n v a b) λy c d=>(aW y c (d.fH s))⟩
theorem zx.alive{G:Gl}{a:ag bR}{L:bk}{ρ:fD}{Lc:bS}{h:cW}(x:zx G a L ρ Lc h):∃o,h.get? L=ae o:=by obtain⟨⟨_,⟨o,_,_,e,_⟩,_⟩,_,_,_⟩:=x;exact⟨o,e⟩
theorem zx.fm{G:Gl}{a:ag bR}{L:bk}{ρ b:fD}{Lc:bS}{h e:cW}(x:zx G a L ρ Lc h)(f:Fm iN h ρ e b):zx G a L b Lc e:=
 by obtain⟨⟨m,⟨o,l,n,d,r⟩,i⟩,c,k,g⟩:=x;exact⟨(aW m (oK o l n (f.nq L o d c id) r) (i.fH f.sub)),λq=>(f.fresh L q).elim c (λz=>gG d z),k,g⟩
structure Z where
 G:Gl
 cl:aD
 A:cG
 K:pq
 C:Cy
 aU:ag bR
 gl:bR->av V
 aJ:rP
 L:bk
 b:aA
noncomputable abbrev up(b:aA)(h:cW)(tk:D):aA:={b with heap:=h,toks:=tk}
structure P0(z:Z)(H:Mi.H) where
 h:cW
 tk:D
 ρ:fD
 gB:tv z.G.T z.G.hb ρ H h
 jO:zq z.G z.A iN ρ h
noncomputable def P0.s{z:Z}{H:Mi.H}(p:P0 z H):aA:=up z.b p.h p.tk
structure Pt(z:Z)(Lc:bS)(H:Mi.H) extends P0 z H where
 fst:zx z.G z.aU z.L ρ Lc h
def Z.Ex(z:Z)(e:ay)(s:aA):Prop:=∃a h tk,e= .ref a/\s=up z.b h tk/\uQ z.G z.A z.L am a h/\z.C.X
def Z.wp{α:Type}(z:Z)(t:nE α)(W:α->aA->Prop)(s:aA):Prop:=cP z.cl z.G.M z.A t W z.Ex s
def L0{z:Z}{H j:Mi.H}(p:P0 z H)(q:P0 z j):Prop:=Fm iN p.h p.ρ q.h q.ρ
def Le{z:Z}{Lc u:bS}{H j:Mi.H}(p:Pt z Lc H)(q:Pt z u j):Prop:=Fm (·=z.L) p.h p.ρ q.h q.ρ
abbrev P0.vr{z:Z}{H:Mi.H}(p:P0 z H):V->ay->Prop:=VR z.G.T p.ρ
section
variable{z:Z}{α β:Type}{Lc u B:bS}{H j E:Mi.H}
theorem Le.refl(p:Pt z Lc H):Le p p:=Fm.refl _ _ _
theorem Le.trans{p:Pt z Lc H}{q:Pt z u j}{r:Pt z B E}(a:Le p q)(b:Le q r):Le p r:=Fm.trans a (λb o=>(q.gB.new b (yB a.sub o)).2) b λb e=>e▸q.fst.alive
theorem Le.v{p:Pt z Lc H}{q:Pt z u j}(a:Le p q){v:V}{y:ay}(h:p.vr v y):q.vr v y:=h.fH a.sub
theorem Le.vs{p:Pt z Lc H}{q:Pt z u j}(a:Le p q){v:ag V}{y:ag ay}(h:iD z.G.T p.ρ v y):iD z.G.T q.ρ v y:=h.fH a.sub
noncomputable def Pt.at(p:Pt z Lc H)(q:P0 z j)(f:L0 p.toP0 q):Pt z Lc j:=⟨q,p.fst.fm f⟩
theorem L0.le{p:Pt z Lc H}{q:P0 z j}(f:L0 p.toP0 q):Le p (p.at q f):=Fm.rR (λa e=>e.elim) f
noncomputable def P0.gJ(p:P0 z H)(tk:D):P0 z H:=⟨p.h,tk,p.ρ,p.gB,p.jO⟩
theorem Fm.none{ρ:fD}{h a:cW}(k:∀b o,h.get? b=ae o->a.get? b=ae o):Fm iN h ρ a ρ:=Fm.Ju _ _ λb o c=>k b o
noncomputable def P0.mZ(p:P0 z H){a:cW}(tk:D)(k:∀b o,p.h.get? b=ae o->a.get? b=ae o):P0 z H:=⟨a,tk,p.ρ,p.gB.Ju k,p.jO.fm (Fm.none k)⟩
theorem P0.jx(p:P0 z H){a:cW}(tk:D)(k:∀b o,p.h.get? b=ae o->a.get? b=ae o):L0 p (p.mZ tk k):=Fm.none k
noncomputable def P0.new(p:P0 z H){c:cW}{a d:bk}{o:O}(tk:D)(k:∀b o,p.h.get? b=ae o->c.get? b=ae o)(ga:p.h.get? a=ax)(f:p.h.get? d=ax)(i:∃o,c.get? a=ae o)(ld:∃o,c.get? d=ae o)
 (w:OR z.G.T (p.ρ++[(a,d)]) c a d o):P0 z (H++[o]):=⟨c,tk,p.ρ++[(a,d)],p.gB.RS (λb o g=>k b o) (λb o e=>k b o (p.gB.keep b o e)) ga f i ld w,p.jO.fm (Fm.push _ _ (λb o g=>k b o) ga f)⟩
theorem P0.Dl(p:P0 z H){a d:bk}:VR z.G.T (p.ρ++[(a,d)]) (.ref H.length) (.ref a):=(dO a d J (I (aQ p.gB.len) (bD)))
noncomputable def P0.uY(p:P0 z H){b:cW}{n:D}{a d x:bk}{c:O}(tk:D)(q:p.ρ[n]? =ae (a,d))(e:x=a\/x=d)(s:kR x p.h b)(w:OR z.G.T p.ρ b a d c)(f:∃o,b.get? x=ae o):P0 z (H.set n c):=
 ⟨b,tk,p.ρ,p.gB.wZ q e s w f,p.jO.fm (Fm.wZ _ q e s)⟩
theorem Z.wp.bind{m:nE α}{f:α->nE β}{Q:β->aA->Prop}{s:aA}(h:z.wp m (λa b=>z.wp (f a) Q b) s):z.wp (m>>=f) Q s:=aG h
theorem Z.wp.fE{m:nE α}{a:ag ay}{Q:α->aA->Prop}{s:aA}(h:z.wp m Q s):z.wp (jE a m) Q s:=fc h
theorem Z.wp.rB{m:nE ay}{a:ag ay}{Q:ay->aA->Prop}{s:aA}(h:z.wp m Q s):z.wp (PX a m) Q s:=AJ h
theorem Z.wp.cC{m:nE α}{a:gz}{Q:α->aA->Prop}{s:aA}(h:z.wp m Q s):z.wp (iH a>>=λb=>m) Q s:=aG (fR h)
theorem Z.wp.gB{m:nE α}{a b:ag ay}{Q:α->aA->Prop}{s:aA}(h:z.wp m Q s):z.wp (release a b>>=λc=>m) Q s:=aG (pQ h)
theorem Z.wp.pure{a:α}{Q:α->aA->Prop}{s:aA}(h:Q a s):z.wp (pure a) Q s:=aX h
theorem Z.wp.of{t:nE α}{Q:α->aA->Prop}{s:aA}(h:cu z.G.M z.A t Q z.Ex s):z.wp t Q s:=cP.of h
def P0.To(p:P0 z H)(W:ay->aA->Prop)(v:V)(j:Mi.H):Prop:=∀(q:P0 z j) y,L0 p q->q.vr v y->W y q.s
def Pt.To(p:Pt z Lc H)(W:ay->aA->Prop)(v:V)(j:Mi.H):Prop:=∀(q:Pt z Lc j) y,Le p q->q.vr v y->W y q.s
theorem Pt.To.p0{p:Pt z Lc H}{W:ay->aA->Prop}{v:V}(k:p.To W v j):p.toP0.To W v j:=λq y l h=>k (p.at q l) y l.le h
theorem P0.To.val{p:P0 z H}{W:ay->aA->Prop}{v:V}(k:p.To W v H){y:ay}(h:p.vr v y)(tk:D):W y (up z.b p.h tk):=k (p.gJ tk) y (Fm.refl _ _ _) h
theorem P0.To.mZ{p:P0 z H}{W:ay->aA->Prop}{v:V}(k:p.To W v H){y:ay}(h:p.vr v y){a:cW}(tk:D)(g:∀b o,p.h.get? b=ae o->a.get? b=ae o):W y (up z.b a tk):=k (p.mZ tk g) y (p.jx tk g) h
theorem P0.To.new{p:P0 z H}{W:ay->aA->Prop}{o:O}(k:p.To W (.ref H.length) (H++[o])){e:cW}{a d:bk}(tk:D)(g:∀b o,p.h.get? b=ae o->e.get? b=ae o)(ga:p.h.get? a=ax)(f:p.h.get? d=ax)(i:∃o,e.get? a=ae o)(ld:∃o,e.get? d=ae o)
 (w:∀c,Sub p.ρ c->OR z.G.T c e a d o):W (.ref a) (up z.b e tk):=k (p.new tk g ga f i ld (w _ (Sub.append _ _))) _ (Fm.push _ _ (λb o l=>g b o) ga f) p.Dl
theorem P0.To.uY{p:P0 z H}{W:ay->aA->Prop}{v:V}{n:D}{e:O}(k:p.To W v (H.set n e)){y:ay}(g:p.vr v y){c:cW}{a d x:bk}(tk:D)(q:p.ρ[n]? =ae (a,d))(f:x=a\/x=d)(s:kR x p.h c)(w:OR z.G.T p.ρ c a d e)(i:∃o,c.get? x=ae o):
 W y (up z.b c tk):=k (p.uY tk q f s w i) y (Fm.wZ _ q f s) g
def So{α β:Type}(z:Z)(R:fD->α->β->Prop)(t:nE β)(m:bS->(α->Mi.H->Prop)->Mi.H->Prop):Prop:=∀Lc H (p:Pt z Lc H) (Q:α->Mi.H->Prop) (W:β->aA->Prop),m Lc Q H->
 (∀j (q:Pt z Lc j) v y,Le p q->R q.ρ v y->Q v j->W y q.s)->z.wp t W p.s
abbrev SE(z:Z)(t:nE ay)(m:wV):Prop:=So z (VR z.G.T) t m
abbrev SB(z:Z)(t:nE aD)(m:wB):Prop:=So z (λa v y=>y=v) t m
end
def Fw(G:Gl)(K:jR):Prop:=∀k o,K k=ae o->∀ρ,OR G.T ρ G.hb (G.T.kA k) (G.T.kA k) o
theorem P0.iR{z:Z}{H:Mi.H}(p:P0 z H)(f:Fw z.G z.C.K){v:V}{x:ay}(c:p.vr v x){o:O}(l:Look z.C.K H v o):∃a d,x= .ref a/\OR z.G.T p.ρ p.h a d o:=by
 induction v with
 |ref n=>exact cY c λa d e b=>(dO a d e (p.gB.obj n _ _ _ l b))
 |aV k=>exact dO _ _ c ((f k _ l p.ρ).fH (Sub.refl _) (λy=>p.gB.keep _ y) λy=>p.gB.keep _ y)
 |_=>exact l.elim
theorem P0.cell{z:Z}{H:Mi.H}(p:P0 z H){n:D}{x:ay}(c:p.vr (.ref n) x){o:O}(l:H[n]? =ae o):∃a d,x= .ref a/\p.ρ[n]? =ae (a,d)/\OR z.G.T p.ρ p.h a d o:=
 cY c λa d e b=>(nT a d e b (p.gB.obj n _ _ _ l b))
@[elab_as_elim] theorem P0.iP{z:Z}{H:Mi.H}(p:P0 z H)(x:ay)(c:Fw z.G z.C.K){v:V}(b:p.vr v x){o:O}(l:Look z.C.K H v o){motive:ay->Prop}(k:∀a d,OR z.G.T p.ρ p.h a d o->motive (.ref a)):motive x:=hV x (p.iR c b l) k
@[elab_as_elim] theorem P0.jd{z:Z}{H:Mi.H}(p:P0 z H){n:D}(x:ay)(b:p.vr (.ref n) x){o:O}(l:H[n]? =ae o){motive:ay->Prop}(k:∀a d,(p.ρ[n]? =ae (a,d)/\OR z.G.T p.ρ p.h a d o)->motive (.ref a)):motive x:=hV x (p.cell b l) k
end Mi
end
section
namespace Mi
open PySem PySem.W PySem.Calls PyProof.Rows PySem.MeetsSeq
inductive Ck:V->V->aD->Prop
 |int (x y:aF):Ck (.int x) (.int y) (x==y)
 |str (x y:ag D):Ck (.str x) (.str y) (x==y)
 |bytes (x y:ag D):Ck (.bytes x) (.bytes y) (x==y)
theorem Jn{a b:V}{c:aD}(e:iY a b=ae c):Ck a b c:=by
 induction a with
 |int x=>induction b with
  |int y=>exact aT e▸.int x y
  |_=>exact nn e
 |str x=>induction b with
  |str y=>exact aT e▸.str x y
  |_=>exact nn e
 |bytes x=>induction b with
  |bytes y=>exact aT e▸.bytes x y
  |_=>exact nn e
 |_=>exact nn e
noncomputable def jW:ay->ay->aD
 | .int a _,.int b _=>a==b
 | .str a _,.str b _=>a.cps.toList==b.cps.toList
 | .bytes a _,.bytes b _=>a.toList==b.toList
 |_,_=>ai
theorem toNat_map_inj{a b:ag lO}(h:a.map fz=b.map fz):a=b:=List.map_inj_right (λc c=>UInt8.toNat_inj.mp)|>.mp h
theorem mP(a b:ag lO):(a.map fz==b.map fz)=(a==b):=by
 rewrite[hU,a6,a6];exact⟨toNat_map_inj,λe=>e▸rfl⟩
theorem pJ{a b:bR}(h:a.cps.toList=b.cps.toList):a=b:=by
 obtain⟨⟨a⟩⟩:=a;obtain⟨⟨b⟩⟩:=b;exact aL (λl=>Str.mk ⟨l⟩) h
theorem DB{α:Type}{p:Prop}[Mg p][BEq α][LawfulBEq α]{a b:α}(h:p↔a=b):decide p=(a==b):=by
 rewrite[hU,a6,fw];exact h
theorem I2{α:Type}[BEq α][LawfulBEq α](a b:α):(a==b)=(b==a):=by
 rewrite[hU,a6,a6];exact eq_comm
section
variable{T:kq}{ρ:fD}
theorem yz{a b:V}{x y:ay}(m:VR T ρ a x)(l:VR T ρ b y){c:aD}(e:Ck a b c):jW x y=c/\EqGives y x c:=by
 induction e with
 |int i j=>refine gF x m λt=>?_;refine gF y l λu=>?_;exact⟨rfl,λk w A E s Q h=>wpAny_eqBool_int ((I2 i j▸h))⟩
 |str i j=>refine cY m λx t f d=>?_;refine I f (sb d (cY l λy u f d=>?_));exact I f (sb d (⟨rfl,λk w A E s Q h=>wpAny_eqBool_str ((DB (p:=y=x) ⟨λe=>e▸rfl,λe=>(pJ e).symm⟩).symm▸h)⟩))
 |bytes i j=>
  refine cY m λx t f d=>?_;refine I f (sb d (cY l λy u f d=>?_));exact I f (sb d (I (mP ..) (⟨rfl,λk w A E s Q h=>W.eqBool_bytes ((DB (p:=y.toList=x.toList) eq_comm).symm▸h)⟩)))
theorem vG{v:V}{x:ay}(o:VR T ρ v x){d:ag V}{a:ag ay}(h:iD T ρ d a)(c:js v d=am):a.any (jW x)=uI v d/\∀y∈a,EqGives y x (jW x y):=by
 induction h with
 |nil=>exact⟨rfl,λr h=>nomatch h⟩
 |cons h _ k=>
  refine cv ((aq _ _).mp c) λq p=>cv (k p) λm l=>cs (d8.mp q) λb i=>cv (yz o h (Jn i)) λf j=>⟨?_,λy n=>(aZ.mp n).elim (λe=>e▸f.symm▸j) (l y)⟩;refine(?_ :(jW x _||_)=(iY v _==ae am||_));refine I m (I f (I i ?_));cases b<;>rfl
end
def yx(G:Gl):Prop:=
 (∀i,G.T.hv (.int i)=(intKind G.prog G.w).hash i)/\(∀x:bR,G.T.hv (.str x.cps.toList)=(xt G.prog G.w).hash x)/\(∀b:ag lO,G.T.hv (.bytes (b.map fz))=(bytesKind G.prog G.w).hash b)
structure DK(G:Gl){K:Type}[vQ K](g:KeyKind G.prog G.w K)(iW:K->V):Prop where
 is:∀{ρ:fD} {k:K} {x:ay},VR G.T ρ (iW k) x->g.is k x=am
 vr:∀{ρ:fD} {k:K} {x:ay},g.is k x=am->VR G.T ρ (iW k) x
 hash:∀k,G.T.hv (iW k)=g.hash k
 inj:∀a b,iW a=iW b->a=b
 cj:∀{ρ:fD} {k:K} {v:V} {x:ay} {c:aD},VR G.T ρ v x->Ck (iW k) v c->∃k',v=iW k'
section
variable{G:Gl}
theorem Hy(h:yx G):DK G (intKind G.prog G.w) .int where
 is {ρ k x} h:=cs h λt e=>by refine I e ?_;simp[intKind,Value.isInt]
 vr {ρ k x} h:=Value.isInt_shape h
 hash:=h.1
 inj a b h:=by injection h
 cj {ρ k v x c} hv h:=by cases h;exact⟨_,rfl⟩
theorem Hx(h:yx G):DK G (xt G.prog G.w) (λx=> .str x.cps.toList) where
 is {ρ k x} h:=by
  refine hV x h λy t e=>?_;refine I (pJ e) (?_ :(k==k)=am);exact aR J
 vr {ρ k x} h:=cs (Value.isStrOf_shape h) λt e=>(dO _ t e J)
 hash:=h.2.1
 inj a b h:=pJ (by injection h)
 cj {ρ k v x c} hv h:=by cases h;exact⟨⟨⟨_⟩⟩,rfl⟩
theorem AF(h:yx G):DK G (bytesKind G.prog G.w) (λb=> .bytes (b.map fz)) where
 is {ρ k x} h:=by
  refine hV x h λy t e=>?_;refine I (aQ (toNat_map_inj e)) ?_;exact fW _
 vr {ρ k x} h:=cs (isBytes_shape h) λt e=>(dO _ t e J)
 hash:=h.2.2
 inj a b h:=toNat_map_inj (by injection h)
 cj {ρ k v x c} hv h:=by cases h;exact cY hv λy t e q=>⟨y.toList,aL V.bytes q.symm⟩
abbrev ZR{K:Type}(T:kq)(ρ:fD)(iW:K->V):ag (V×V)->ag (K×ay)->Prop:=fe λf e=>f.1=iW e.1/\VR T ρ f.2 e.2
variable{K:Type}[vQ K]{g:KeyKind G.prog G.w K}{iW:K->V}{ρ:fD}
theorem ZR.of(a:DK G g iW)(k:K){d:ag (V×V)}{j:ag dX}(h:DR G.T ρ d j)(c:js (iW k) (d.map (·.1))=am):
  ∃l:ag (K×ay),ZR G.T ρ iW d l/\Pairs g j l/\∀e∈j,∃k,g.is k e.key=am/\e.hash=g.hash k:=by
 induction h with
 |nil=>exact bQ ([]) .nil .nil (λu h=>nomatch h)
 |cons h _ n=>
  refine cv ((aq _ _).mp c) λt s=>kh (n s) λl z p q=>cs (d8.mp t) λb r=>cs (a.cj h.1 (Jn r)) λi f=>?_;have m:=a.is (f▸h.1);exact bQ ((i,_)::l) (.cons ⟨f,h.2.2⟩ z) (.cons m J p) (λx o=>(aZ.mp o).elim (λe=>e▸(aW i m (h.2.1.trans (f▸a.hash i)))) (q x))
theorem ZR.QO{T:kq}{a:ag (V×V)}{l:ag (K×ay)}(h:ZR T ρ iW a l):a.map (·.1)=(l.map (·.1)).map iW:=by
 induction h with
 |nil=>rfl
 |cons h _ b=>exact congr (aL _ h.1) b
theorem ZR.find{T:kq}(j:∀a b,iW a=iW b->a=b)(k:K){c:ag (V×V)}{l:ag (K×ay)}(h:ZR T ρ iW c l):
  (∀v,dp (iW k) c=ae v->∃x,valueAt l k=ae x/\VR T ρ v x)/\(dp (iW k) c=ax->valueAt l k=ax)/\c.any (λi=>decide (i.1=iW k))=l.any (λi=>decide (i.1=k)):=by
 induction h with
 |nil=>exact bX (λm h=>(nomatch h)) (λm=>rfl) J
 | @cons f e r t h _ d=>
  unfold dp valueAt at d⊢;refine I (DP) ?_;refine I (DP) ?_;refine I qU (I qU (I (show decide (f.1=iW k)=decide (e.1=k) by rewrite[hU,fw,fw];exact I h.1 (⟨j _ _,λe=>e▸rfl⟩)) (I d.2.2 ?_)));cases decide (e.1=k) with
  |true=>exact bX (λv q=>(aW _ rfl (aT q▸h.2))) (λq=>(nomatch q)) J
  |false=>exact bX d.1 d.2.1 J
theorem ZR.stored{T:kq}(d:∀a b,iW a=iW b->a=b)(k:K){v:V}{x:ay}(i:VR T ρ v x){c:ag (V×V)}{l:ag (K×ay)}(z:ZR T ρ iW c l):ZR T ρ iW (uN (iW k) v c) (PySem.stored l k x):=by
 unfold PySem.stored uN;refine I ((z.find d k).2.2) ?_;split
 ·rename_i m;clear m;induction z with
  |nil=>exact .nil
  | @cons f e r t h _ j=>
   refine .cons ?_ j;dsimp only;by_cases q:e.1=k
   ·exact dG q (dG (I h.1 (I q J)) (⟨h.1,i⟩))
   ·exact cM q (cM (λz=>q (d _ _ (h.1▸z))) h)
 ·exact z.append (.cons ⟨rfl,i⟩ .nil)
theorem ZR.NG(c:DK G g iW){f:ag dX}{l:ag (K×ay)}(p:Pairs g f l):∀{d:ag (V×V)},ZR G.T ρ iW d l->(∀e∈f,∃k,g.is k e.key=am/\e.hash=g.hash k)->DR G.T ρ d f:=by
 induction p with
 |nil=>intro d h _;cases h;exact .nil
 |cons i o p j=>
  intro d h q;cases h with
  |cons h z=>
   refine aM (q _ (.head _)) λk a b=>?_;have n:=g.inj _ _ _ a i;revert b;exact I n λb=> .cons (bX (h.1▸c.vr i) (b.trans (h.1▸(c.hash _).symm)) (o▸h.2)) (j z λx m=>q x (.tail _ m))
theorem DA(b:DK G g iW)(k:K){h:cW}{a d:bk}{f:ag (V×V)}(w:OR G.T ρ h a d (.dict f))(c:js (iW k) (f.map (·.1))=am):
  ∃l:ag (K×ay),ZR G.T ρ iW f l/\h.DictOf g a l:=by
 refine i7 w λu j i=>?_;refine cY i λs n o t=>?_;refine kh (ZR.of b k t c) λl z p q=>aW l z (tU _ s n o (bX J J J) J (λe r=>q e (eH.mpr r)) ⟨p,?_⟩);rw[z.QO] at j;exact Wh (λm e=>m (aL iW e)) (We.mp j)
theorem EZ(b:DK G g iW){h:cW}{a d:bk}{c:ag (V×V)}{l:ag (K×ay)}(m:(a==rI)=ai)(z:ZR G.T ρ iW c l)(w:h.DictOf g a l):OR G.T ρ h a d (.dict c):=by
 refine Ml w λj v n s i u r f=>?_;obtain⟨B,E,k,C⟩:=j;refine i7 i λA y x=>?_;refine cv f λp q=>?_;subst A y x u;refine bX m ?_ (dO v n s (ZR.NG b p z λe t=>r e (eH.mp t)));exact I z.QO (We.mpr (Wh (λo e=>o (b.inj _ _ e)) q))
end
theorem DE{G:Gl}(d:yx G){ρ:fD}{k:V}{x:ay}(h:VR G.T ρ k x)(c:MX k=am){P:Prop}
  (f:∀{K:Type} [vQ K] {g:KeyKind G.prog G.w K} {iW:K->V} (a:DK G g iW) (j:K),k=iW j->g.is j x=am->P):P:=by
 induction k with
 |int i=>exact f (Hy d) _ rfl ((Hy d).is h)
 |str s=>exact f (Hx d) ⟨⟨s⟩⟩ J ((Hx d).is (k:=⟨⟨s⟩⟩) h)
 |bytes b=>exact cY h λy t e q=>f (AF d) y.toList (aL V.bytes q.symm) ((AF d).is (ρ:=ρ) (q▸h))
 |_=>exact ft c
theorem yK{G:Gl}(p:yx G){ρ:fD}{o:cW}{k:V}{x:ay}(h:VR G.T ρ k x){a d:bk}{c:ag (V×V)}(w:OR G.T ρ o a d (.dict c))(e:xh k c){P:Prop}
  (j:∀{K:Type} [vQ K] {g:KeyKind G.prog G.w K} (i:K) (f:K->av ay),g.is i x=am->o.MapOf g a f->(∀v,dp k c=ae v->∃y,f i=ae y/\VR G.T ρ v y)->(dp k c=ax->f i=ax)->P):P:=by
 refine cv ((aq _ _).mp e) λs n=>DE p h s λb i q r=>?_;revert j n;exact I q λj n=>aM (DA b i w n) λl z m=>j i _ r m.mapOf (z.find b.inj i).1 (z.find b.inj i).2.1
end Mi
end
section
namespace Mi
open PySem PySem.W PySem.Calls PyProof.Rows
structure SW(G:Gl)(K:pq)(c:D):Prop where
 ga:tC K (.ref (G.T.iB c)) "__getattribute__"=ae (ae (.builtin "object.__getattribute__"))
 XA:tC K (.ref (G.T.iB c)) "__getattr__"=ae ax
 sa:tC K (.ref (G.T.iB c)) "__setattr__"=ae (ae (.builtin "object.__setattr__"))
 cd:∃cd,clsIn K (G.T.iB c)=ae cd/\cd.hasDict=am
 Uu:plainOver K (G.T.iB c)=am
structure FA(G:Gl)(K:pq)(fld:D->D->aD)(fI:D->D->av D):Prop where
 In:K.In G.hb
 inj:∀a b,G.T.dK a=G.T.dK b->a=b
 cls:∀c a,fld c a=am\/(fI c a).isSome=am->SW G K c
 M3:∀c a,fld c a=am->tC K (.ref (G.T.iB c)) (G.T.dK a)=ae ax/\copiedNames.contains (G.T.dK a)=ai
 bi:∀b,handedIn (.builtin (G.T.HC b))=am
 O7:∀c a f,fI c a=ae f->tC K (.ref (G.T.iB c)) (G.T.dK a)=ae (ae (.ref (G.T.qL f)))/\typeIn K (.ref (G.T.qL f))=ae (.type "function")
def HJ(G:Gl)(x:bR)(v:V):Prop:=∃y,(∀ρ,VR G.T ρ v y)/\((∃a,G.hb.Ns eQ a/\a x=ae y)\/∃a b,G.hb.Ns eQ a/\a x=ax/\G.hb.Ns rO b/\b x=ae y)
structure DG(T:kq):Prop where
 b0:T.HC 0="len"
 b1:T.HC 1="isinstance"
 b2:T.HC 2="abs"
 b3:T.HC 3="max"
 b4:T.HC 4="sum"
 t1:T.Aj 1="int"
 t2:T.Aj 2="bool"
 t3:T.Aj 3="bytes"
 t4:T.Aj 4="list"
 t5:T.Aj 5="bytearray"
 t6:T.Aj 6="str"
 t7:T.Aj 7="enumerate"
def keeps(G:Gl)(K:pq):V->Prop
 | .fn i=>Bt K (.ref (G.T.qL i))=am
 | .cls c=>Bt K (.ref (G.T.iB c))=am
 | .ty _| .bi _=>JY
 |_=>bA
noncomputable def zd:V->aD
 | .fn _| .cls _| .ty _| .bi _=>am
 |_=>ai
structure Z.Ok(z:Z):Prop where
 fV:FA z.G z.K z.C.fld z.C.fI
 ko:Fw z.G z.C.K
 hv:yx z.G
 nm:DG z.G.T
 en:ul z.G z.aU z.aJ z.L
 un:z.A.units+100<cLine
 hd:z.A.handled=ax
 ba:z.C.ba=z.cl
 sm:∃o,z.G.hb.get? rI=ae o
 iS:∀id v,z.gl id=ae v->z.aJ.kindOf id=ae .globalImplicit/\HJ z.G id v
 keep:∀id v,z.gl id=ae v->zd v=am->keeps z.G z.K v
 om:∀c a f,z.C.fI c a=ae f->Bt z.K (.ref (z.G.T.qL f))=am
 call:∀{Lc H} (p:Pt z Lc H) (v:V) (vs:ag V) (x:ay) (xs:ag ay) Q W,p.vr v x->iD z.G.T p.ρ vs xs->z.C.call v vs Q H->
  (∀v j,Q v j->p.To W v j)->z.wp (cX x xs) W p.s
structure Z.wa(z:Z):Prop extends z.Ok where
 fr:∃outer,z.A.frames=ae (z.aJ::outer)
 ye:z.aJ.frame=ae z.L
theorem FR.find{T:kq}{ρ:fD}(i:∀a b,T.dK a=T.dK b->a=b)(a:D){l:ag (D×V)}{c:ag dX}(h:FR T ρ l c):
  (∀v,l.lookup a=ae v->∃e,c.find? (λe=>e.key.isStr (T.dK a))=ae e/\VR T ρ v e.val)/\(l.lookup a=ax->c.find? (λe=>e.key.isStr (T.dK a))=ax)/\c.any (λe=>e.refKey)=ai:=by
 induction h with
 |nil=>exact bX (λn h=>(nomatch h)) (λn=>rfl) J
 | @cons f e r t h _ k=>
  refine cv h λg o=>?_;refine cs g λtk m=>?_;have d:e.key.isStr (T.dK a)=(a==f.1):=by
   refine I m ?_
   refine(?_ :(T.dK f.1==T.dK a)=_)
   rewrite[hU,a6,a6]
   exact⟨λe=>(i _ _ e).symm,λe=>e▸rfl⟩
  refine I (DP) ?_;refine I qU (I (show e.refKey=ai by unfold J4;exact I m J) (I k.2.2 (I d (?_ :(∀v,jK a ((f.1,f.2)::r)=ae v->_)/\(jK a ((f.1,f.2)::r)=ax->_)/\_))));refine I fY ?_;cases a==f.1 with
  |true=>exact bX (λv q=>(aW e J (aT q▸o))) (λq=>(nomatch q)) J
  |false=>exact bX k.1 k.2.1 J
noncomputable def y0(n:bR)(x:ay)(d:dX)(a:ag dX):ag dX:=match a.findIdx? (λe=>e.key.isStr n) with
 |some i=>a.modify i λe=>{e with val:=x}
 |none=>a++[d]
theorem FR.set{T:kq}{ρ:fD}(n:∀a b,T.dK a=T.dK b->a=b){a:D}{v:V}{x:ay}(p:VR T ρ v x)(k:aF)(tk:Tok){u:ag (D×V)}{w:ag dX}(h:FR T ρ u w):
  FR T ρ (setField a v u) (y0 (T.dK a) x ⟨k,.str (T.dK a) tk,x⟩ w):=by
 induction h with
 |nil=>exact .cons ⟨⟨tk,rfl⟩,p⟩ .nil
 | @cons f e r t h y g=>
  refine cv h λm o=>?_;refine cs m λc l=>?_;unfold y0 at g⊢;refine(?_ :fe _ (setField a v ((f.1,f.2)::r)) _);unfold setField;refine I (yQ) ?_;have d:e.key.isStr (T.dK a)=decide (a=f.1):=by
   refine I l ?_
   refine(?_ :(T.dK f.1==T.dK a)=_)
   rewrite[hU,a6,fw]
   exact⟨λe=>(n _ _ e).symm,λe=>e▸rfl⟩
  refine I d ?_;by_cases q:a=f.1
  ·exact dG q (I (aR q) (.cons ⟨⟨c,l.trans (I q J)⟩,p⟩ y))
  ·refine cM q (I (aO q) ?_);cases s:t.findIdx? (λe=>e.key.isStr (T.dK a)) with
   |none=>rw[s] at g;exact .cons ⟨⟨c,l⟩,o⟩ g
   |some i=>rw[s] at g;exact .cons ⟨⟨c,l⟩,o⟩ g
theorem vT(a:bR)(h:aF)(f v c:ay)(d:av bk)(b:eZ dX)(n:D)(k:eZ (av ay)):
  ∃g m,zP a h f v ⟨c,d,.dict b n,k⟩=⟨c,d,.dict g m,k⟩/\g.toList=y0 a v ⟨h,f,v⟩ b.toList:=by
 refine I Obj.putName_eq ?_;unfold Obj.putNameByArray y0;dsimp only;refine I (show b.findIdx? (λe=>e.key.isStr a)=b.toList.findIdx? (λe=>e.key.isStr a) from by obtain⟨l⟩:=b;simp) ?_;cases b.toList.findIdx? (λe=>e.key.isStr a) with
 |some i=>exact dO _ _ rfl (by simp)
 |none=>exact dO _ _ rfl (by simp)
section
variable{z:Z}{Lc:bS}{H j:Mi.H}{W:ay->aA->Prop}
theorem P0.zG(F:z.Ok)(p:P0 z H):z.K.In p.h:=F.fV.In.keeps p.gB.keep
theorem yG{G:Gl}{ρ:fD}{h:cW}{a d:bk}{c:D}{f:ag (D×V)}(w:OR G.T ρ h a d (.inst c f)):∃b n,InstAt h a (vp (G.T.iB c) d) (G.T.iB c) (ae {cls:= .type "dict",data:= .dict b n})/\FR G.T ρ f b.toList/\b.size<=1000:=
 i7 w λo l e=>pC e λb n k m i=>(nT b n ⟨l,rfl,rfl,k⟩ m i)
theorem VR.Ph{G:Gl}{K:pq}{c:D->D->aD}{a:D->D->av D}(B:FA G K c a){ρ:fD}{v:V}{x:ay}(h:VR G.T ρ v x):handedIn x=am:=by
 induction v with
 |bi b=>exact I (h) (B.bi b)
 |int=>refine gF x h λt=>?_;rfl
 |str=>refine hV x h λy t d=>?_;rfl
 |bytes=>refine hV x h λy t d=>?_;rfl
 |ref=>refine hV x h λy t d=>?_;rfl
 |_=>exact I (h) J
theorem Hf(F:z.Ok)(p:P0 z H){o v:V}{a:D}{x:ay}(g:zL z.C.fld H o a v)(q:p.vr o x)(l:aD)(k:p.To W v H):z.wp (PySem.getAttr x (z.G.T.dK a) l) W p.s:=by
 revert q;refine zj o g λn c L f=>λq=>?_;refine i7 f λu t y=>?_;refine p.jd x q u λO d f=>?_;refine cv f λE w=>?_;refine pC (yG w) λM m b B K=>aM ((B.find F.fV.inj a).1 v y) λe A i=>?_;have C:=F.fV.cls c a (.inl t);refine aM C.cd λN r h=> .of (get_value (p.zG F) b C.ga ?_ (i.Ph F.fV) (k.val i _));unfold findObj;refine I r (I (iJ ..) (I ((F.fV.M3 c a t).1) (I (iJ ..) ?_)));refine I (iJ ..) (I (iJ ..) ?_);unfold PySem.W.ownOf;refine I h (dG J ?_);unfold lookIn;dsimp only;exact I A J
theorem He(F:z.Ok)(p:P0 z H){o v:V}{a:D}{x y:ay}{U:xj->aA->Prop}(g:qh z.C.fld H o a v j)(N:p.vr o x)(hy:p.vr v y)(k:∀q:P0 z j,L0 p q->U () q.s):z.wp (PySem.setAttr x (z.G.T.dK a) y) U p.s:=by
 revert N;refine zj o g λn c A t=>λN=>?_;refine rQ t λho Z O E=>?_;revert k;refine I E λk=>p.jd x N ho λad d t=>?_;refine cv t λK w=>?_;refine pC (yG w) λS m e fr le=>?_;have C:=F.fV.cls c a (.inl Z);refine aM C.cd λcd R u=>?_;have W:=p.zG F;refine .of (set_plain W e C.sa (osa_open (r:=ax) (s:=up z.b p.h (p.tk+1)) W e C.Uu (by unfold takerIn;exact I ((F.fV.M3 c a Z).1) J) λb=>?_));have Q:=e.dict;have ha:=e.at_;refine aB (aP (aB (aB (rG ha (aB ((looks_clsIn W R).at (I u (aP (a:=ae d) (aB (aP (aB ?_)))))))))));refine aB (aB (wpAny_askSetting (aP (aB (W2 (aB (rG Q ?_)))))));dsimp only;have cc:(!S.any (·.key.isStr (z.G.T.dK a))&&S.any (·.refKey))=ai:=by
  refine I (aQ mT) ?_;refine I (aQ mT) ?_;refine I ((fr.find F.fV.inj a).2.2) ?_;refine I (lV ..) ?_;rfl
 refine I (W6 ..) (I cc (cY (vT (z.G.T.dK a) (ji z.G.w.params (z.G.T.dK a)) (.str (z.G.T.dK a) (p.tk+1)) y (.type "dict") ax S m #[]) λL m' Y P=>?_));have M:=gP p.h d (zP (z.G.T.dK a) (ji z.G.w.params (z.G.T.dK a)) (.str (z.G.T.dK a) (p.tk+1)) y);have i:=eF (zP (z.G.T.dK a) (ji z.G.w.params (z.G.T.dK a)) (.str (z.G.T.dK a) (p.tk+1)) y) Q (I Y J);rw[Y] at i;have B:=fr.set F.fV.inj (a:=a) hy (ji z.G.w.params (z.G.T.dK a)) (p.tk+1);rw[<-P] at B;have X:L.size<=1000:=by
  have l:∀A:ag (D×V),(setField a v A).length<=A.length+1:=λA=>by
   induction A with
   |nil=>exact aE _
   |cons f r ih=>unfold setField;split<;>first|exact dR _|exact mQ ih
  refine I (aQ bY) ?_;refine I B.length ?_
  exact az (l A) (az (mQ O) (ac J))
 have w':=show OR z.G.T p.ρ (p.h.update d _) ad d (.inst c (setField a v A)) from⟨w.1,(M.2 ad w.1).trans ha,L,m',i,B,X⟩;exact wpAny_updatePart Q (aB (vI i (pastItsLine_dict (az X (I fp (ac J)))) (aP (k (p.uY _ K (.inr J) M w' ⟨_,i⟩) (Fm.wZ _ K (.inr J) M)))))
theorem Ey(F:z.Ok)(p:P0 z H){o:V}{a f:D}{x:ay}(g:Fy z.C.fI H o a f)(i:p.vr o x){r:nE aD}{E:ay->aA->Prop}{Q:ay×ag ay->aA->Prop}(h:Q (.ref (z.G.T.qL f),[x]) p.s):
  cu z.G.M z.A (getMethod x (z.G.T.dK a) r) Q E p.s:=by
 revert i;refine zj o g λn c N e=>λi=>?_;refine i7 e λu k v=>?_;revert h;refine p.jd x i u λP d e=>λh=>?_;refine cv e λl w=>?_;refine pC (yG w) λO m b y L=>?_;have C:=F.fV.cls c a (.inr (I k J));refine cv (F.fV.O7 c a f k) λK B=>method_fn (p.zG F) b C.ga C.XA K B ?_ h;refine i7 (y.find F.fV.inj a) λl q t=>?_;unfold shadowIn lookIn;dsimp only;exact I (q v) (I t J)
end
end Mi
end
section
namespace Mi
open PySem PySem.W PySem.Calls PyProof.Rows
namespace BA
theorem owner:Manifest.owners.lookup (String.ofList ['y','a','r','r','a','e','t','y','b'].reverse)=ae Manifest.sig_bytearray:=by kernel_rfl
theorem Aq:Slot "bytearray" "__len__" "bytearray.__len__":=
 .of (owner:="bytearray") (n:="__len__") (by refine I (eT ..) (I cK ?_);kernel_rfl) (by decide+kernel) (by decide+kernel) (by decide+kernel)
  (by first|exact .inl (by decide+kernel)|exact .inr (by decide+kernel)) (by refine I (rK ..) ?_;kernel_rfl)
theorem EU:rM GD "bytearray.__len__"=ae Builtin.«bytearray.__len__»:=vK (by kernel_rfl)
theorem I8(a:ay):W5 "bytearray.__len__" ⟨[a],[]⟩:=by
 refine I (CY (id:="bytearray.__len__") (n:=['_','_','n','e','l','_','_']) (o:=['y','a','r','r','a','e','t','y','b']) (by kernel_rfl) owner) ?_;kernel_rfl
theorem sU:Slot "bytearray" "__getitem__" "bytearray.__getitem__":=
 .of (owner:="bytearray") (n:="__getitem__") (by refine I (eT ..) (I cK ?_);kernel_rfl) (by decide+kernel) (by decide+kernel) (by decide+kernel)
  (by first|exact .inl (by decide+kernel)|exact .inr (by decide+kernel)) (by refine I (rK ..) ?_;kernel_rfl)
theorem CM:rM GD "bytearray.__getitem__"=ae Builtin.«bytearray.__getitem__»:=vK (by kernel_rfl)
theorem Fp(a b:ay):W5 "bytearray.__getitem__" ⟨[a,b],[]⟩:=by
 refine I (CY (id:="bytearray.__getitem__") (n:=['_','_','m','e','t','i','t','e','g','_','_']) (o:=['y','a','r','r','a','e','t','y','b']) (by kernel_rfl) owner) ?_;kernel_rfl
theorem tX:Slot "bytearray" "append" "bytearray.append":=
 .of (owner:="bytearray") (n:="append") (by refine I (eT ..) (I cK ?_);kernel_rfl) (by decide+kernel) (by decide+kernel) (by decide+kernel)
  (by first|exact .inl (by decide+kernel)|exact .inr (by decide+kernel)) (by refine I (rK ..) ?_;kernel_rfl)
theorem AL:typeOf (.builtin "bytearray.append")=pure (.type "method_descriptor"):=by refine(?_ :builtinType _=_);refine I builtinType_eq_fast ?_;kernel_rfl
theorem zi:rM GD "bytearray.append"=ae Builtin.«bytearray.append»:=vK (by kernel_rfl)
theorem AY(a b:ay):W5 "bytearray.append" ⟨[a,b],[]⟩:=by
 refine I (CY (id:="bytearray.append") (n:=['d','n','e','p','p','a']) (o:=['y','a','r','r','a','e','t','y','b']) (by kernel_rfl) owner) ?_;kernel_rfl
theorem mem_append(b:Args):wx (.builtin "bytearray.append" b):=yD (λa p c=>by kernel_rfl) (λa p v r c=>by kernel_rfl) b
end BA
section
variable{cl:aD}{prog:dZ}{w:dj}{A:cG}{E:ay->aA->Prop}{s:aA}
theorem qH{T:fK}{d:bR}{id:fK}{b:sL}{a:ay}{rest:ag ay}{Q:ay->aA->Prop}(h:Slot T d id)(n:s.TypeIs a T)(l:rM GD id=some b)
  (j:cl=am->wx (.builtin id ⟨a::rest,[]⟩)) (m:W5 id ⟨a::rest,[]⟩)
  (k:cP cl (bP prog w) A.in1 (b ⟨a::rest,[]⟩) (λc g=>∃v,c= .done (.ret v)/\Q v g) E s):cP cl (bP prog w) A (cX (.builtin id) (a::rest)) Q E s:=by
 refine lB (da (λf f f=>rfl) (?_ :cP cl _ A.in1 (do ph id ⟨a::rest,[]⟩;again (.builtin id ⟨a::rest,[]⟩)) _ _ s));refine aG (.of (h.check _ _ _ _ _ _ _ _ n m (aX ⟨TV h.plain _,da j (I (zR h.plain _) (?_ :cP cl _ _ (match rM GD id with|some b=>b ⟨a::rest,[]⟩|none=>unsupported ((withoutEnding? id "#data").getD id)) _ _ s))⟩)));refine I l (fx k (λc g o=>?_) λf f e=>e);refine iu c o λv i=>?_;exact i
theorem qd{M:lP}{a:bk}{Q:aD->aA->Prop}(h:Q ai s):cP am M A (Xa (.ref a)) Q E s:=λΓ p d c=>by
 refine cv (c J) λc e=>ze.2 M Γ a Q E p s ?_;have:((Γ.code,p)::Γ.below).any (ze.1 a)=ai:=jA.mpr λx b=>by
  refine I (Bool.not_eq_true ..) ?_;rcases aZ.mp b with rfl|b
  ·exact c a p
  ·exact e x b a x.2
 exact I this h
theorem zl{M:lP}{i:aF}{t:Tok}{Q:lO->aA->Prop}(b:0<=i)(a:i<256)(h:Q i.toNat.toUInt8 s):cu M A (Wb (.int i t)) Q E s:=by
 exact aB (jy (rfl:asIndex (.int i t)=pure i) (cM (by simp only [hP,bp];exact YY b a) (aP h)))
theorem tP{a:bk}{f:eZ lO}{i:aF}{t:Tok}{Q:ay->aA->Prop}(e:s.heap.get? a=ae {cls:= .type "bytearray",data:= .bytearray f 0})(n:0<=i)(m:i<256)(g:f.size+1<=iI)
  (h:∀j,kR a s.heap j->j.get? a=ae {cls:= .type "bytearray",data:= .bytearray (f.push i.toNat.toUInt8) 0}->Q .none {s with heap:=j}):
  cP am (bP prog w) A (cX (.builtin "bytearray.append") [.ref a,.int i t]) Q E s:=by
 refine qH BA.tX ((aW _ e J)) BA.zi (λl=>BA.mem_append _) (BA.AY _ _) (?_ :cP am _ _ (Wb (.int i t)>>=λc=>(do Builtin.Bytes.checkResize (.ref a);Builtin.Bytes.write (.ref a) (·.push c);ret .none)) _ _ s);refine aG (.of (zl n m (aG ?_)))
 ·refine aG ?_;refine aG (qd (?_ :cP am _ _ (Wa (.ref a)>>=_) _ _ _));refine aG ?_;refine aG (.of (mI e (aX (aX (cM (aa J) (aX (aG (?_ :cP am _ _ (updateBytearray a (·.push i.toNat.toUInt8)) _ _ _))))))));refine aG (.of (mI e (?_ :cP am _ _ (update a (jj (·.push i.toNat.toUInt8))>>=λl=>lookBehind a) _ _ _)));refine aG (.of (WY e ?_));have b:(s.heap.update a (jj (·.push i.toNat.toUInt8))).get? a=ae {cls:= .type "bytearray",data:= .bytearray (f.push i.toNat.toUInt8) 0}:=
   eF (jj (·.push i.toNat.toUInt8)) e J;refine .of (vI b ?_ ?_)
  ·refine(?_ :(if(f.push i.toNat.toUInt8).size>iI then ae "bytearray:memory" else ax)=ax);exact cM (by exact I (Array.size_push ..) (dw 0xe6824006e068240 J g)) J
  ·exact aX (aW _ rfl (h _ (gP ..) b))
theorem qO{M:lP}{a:bk}{c:eZ lO}{k:D}{Q:eZ lO->aA->Prop}(d:s.heap.get? a=ae {cls:= .type "bytearray",data:= .bytearray c k})(h:Q c s):cu M A (Builtin.Bytes.payload (.ref a)) Q E s:=by
 exact aB (aB (mI d (aP (aP h))))
theorem xq{a:bk}{c:eZ lO}{Q:ay->aA->Prop}(d:s.heap.get? a=ae {cls:= .type "bytearray",data:= .bytearray c 0})(g:c.size<=1099511627776)
  (h:Q (.int c.size (s.toks+1)) {s with toks:=s.toks+1+1}):cu (bP prog w) A (cX (.builtin "len") [.ref a]) Q E s:=by
 have e:s.TypeIs (.ref a) "bytearray":=(aW _ d J);refine call_len_slot e BA.Aq (λj i=>vJ BA.Aq e BA.EU ?_ (BA.I8 _)) (bO 0x39ac8ac0 J) (by lia) h;refine(?_ :cu _ _ (Builtin.Bytes.payload (.ref a)>>=λb=>retInt b.size) _ _ _);exact aB (qO d (aB (wpAny_mkInt (aP (aW _ rfl i)))))
theorem uW:jD (.type "slice") "__index__"=pure ax:=by refine I (eT ..) (I cK ?_);kernel_rfl
theorem uX{a q:bk}{b:eZ lO}{l u:ay}{d f:av aF}{Q:ay->aA->Prop}(C:s.heap.get? a=ae {cls:= .type "bytearray",data:= .bytearray b 0})(H:s.heap.IsSliceOf q l u .none)
  (O:IsPart l d) (N:IsPart u f) (y:b.size<=iI) (h:Q (.ref s.heap.objs.size) {s with heap:=s.heap.push {cls:= .type "bytearray",data:= .bytearray (GI b d f) 0}}):
  cu (bP prog w) A (xu (.ref a) (.ref q)) Q E s:=by
 have j:s.TypeIs (.ref a) "bytearray":=(aW _ C J);refine kh H λo i P p=>?_;clear H;have F:s.TypeIs (.ref q) "slice":=(aW o i P);refine wpAny_getItem_slot j (aa J) BA.sU (vJ BA.sU j BA.CM ?_ (BA.Fp _ _));refine(?_ :cu _ _ (Builtin.Bytes.subscript? (.ref q)>>=λr=>_) _ _ s);refine aB ?_;refine aB (iE F uW (aP (aB (wpAny_typeOf F (?_ :cu _ _ (Builtin.Bytes.sliceParts (.ref q)>>=λr=>_) _ _ s)))));refine aB ?_;refine aB (jz (x:= .none) i p J ?_);open KBy in kby_none
 refine wpAny_ite (KBy.ite_no (aC) (aB (jz (x:=l) i p J ?_)));have M:cu (bP prog w) A.in1 (sliceIndices (rawPart d) (rawPart f) (rawPart ax) b.size) (λr G=>r=sliceBounds d f ax b.size/\G=s) (λv v=>bA) s:=
  jy (sliceIndices_raw d f ax b.size (λe=>nomatch e)) ⟨rfl,rfl⟩;have c:∀n m k,(n,m,k)=sliceBounds d f ax b.size->Builtin.Bytes.sliced b n m k=GI b d f:=λn m k e=>by
  unfold GI;exact I (aQ e) J
 have g:=az (KBc.size_picked_le b d f) y;generalize GI b d f=pk at c g h;cases O<;>cases N<;>(first
  |(kby_none;(refine aB (jz (x:= .none) i p J ?_));kby_none)
  |(kby_none;(refine aB (jz (x:= .int _ _) i p J ?_));kby_int)
  |(kby_int;(refine aB (jz (x:= .none) i p J ?_));kby_none)
  |(kby_int;(refine aB (jz (x:= .int _ _) i p J ?_));kby_int))<;>refine aP ?_;all_goals
  refine aB (qO C (aB (iX M (λr G K=>?_) λv v e=>e.elim)));refine cv K λB z=>?_;clear K;clear C j i F M;subst z;obtain⟨n,m,k⟩:=r;have e:=c n m k B;refine(?_ :cu _ _ (Builtin.Bytes.newBytearray (Builtin.Bytes.sliced b n m k)>>=_) _ _ _);refine I e (aB ?_);refine tQ ?_ g;exact aP (aW _ rfl h)
end
end Mi
end
section
namespace Mi
open PySem PySem.W PySem.Calls PyProof.Rows
section
variable{cl:aD}{prog:dZ}{w:dj}{A:cG}{C:bk}{R:lH->aA->Prop}{s:aA}
theorem rZ(b:Args):wx (.builtin "type.__call__" b):=yD (λa p c=>by kernel_rfl) (λa p v r c=>by kernel_rfl) b
theorem tY{c:ag ay}{f:ay}{g:cW}{n:bk}{o:A2}{p:fK}{F:av bk}{G:ay}{q:ClassData}{E:eZ (av ay)}(u:s.heap.get? C=ae ⟨G,F,.cls q,E⟩)(N:q.mro.isEmpty=ai)(cX:kz (bP prog w) s.heap (specialOf (.ref C) "__call__") (ae (.builtin "type.__call__")))(l:kz (bP prog w) s.heap (isInstance (.ref C) (.type "type")) am)
  (made:kz (bP prog w) s.heap (zQ (.ref C)) (ae p)) (i:kz (bP prog w) s.heap (V7 (.ref C) (.ref C)) am) (hi:kz (bP prog w) s.heap (jD (.ref C) "__init__") (ae f)) (M:kz (bP prog w) s.heap (bindSpecial f (.ref n)) (f,[.ref n]))
  (k:∀b o,s.heap.get? b=ae o->g.get? b=ae o) (H:g.get? n=ae o) (L:o.cls= .ref C) (j:∀{O:cG} {y:lH->aA->Prop},y (.ok (.ret (.ref n))) {s with heap:=g}->tR (bP prog w) O (.call (.builtin p) ⟨.ref C::c,[]⟩) y s)
  (K:fG cl (bP prog w) (A.under (.builtin "type.__call__" ⟨.ref C::c,[]⟩)) (.call f ⟨.ref n::c,[]⟩) (InitBack n R) {s with heap:=g}):
  fG cl (bP prog w) A (.call (.ref C) ⟨c,[]⟩) R s:=by
 refine da (λh h h=>rfl) (aG (.of (mI u (?_ :cP cl _ _ (callAny.viaDunder (.ref C) _) _ _ _))));refine aG (.of (cX.here (?_ :cP cl _ _ (_>>=λx=>_) _ _ _)));refine I (tc_bind ..) (aG (aX (aG (aX (aX (a:=Fin.again (.call (.builtin "type.__call__") ⟨.ref C::c,[]⟩)) (And.intro J (da (λh h h=>rfl) (aG (.of (check_slot tc_kind tc_split l (tc_args _ _ _) (aX ⟨DN _ (by decide+kernel),qM (λh=>rZ _) entry_typeCall ?_⟩)))))))))));have t:kz (bP prog w) g (typeOf (.ref n)) (.ref C):=L▸(Looks.ld H).andThen .now;refine aG (m:=mroOf (.ref C)) (.of (((((Looks.ld (part:=ax) u).andThen .now).andThen .now):kz (bP prog w) s.heap (mroOf (.ref C)) q.mro).here (cM (by exact I N (aa J)) (aG (.of (made.here (aG (aX (a:=T2 p) (aG (fc (.of (wpAny_call (j (aG (.of (TZ (s:={s with heap:=g}) (t.andThen (i.keeps k)) (cM (aa J) (aG (fc (aG (aG (.of (TZ (s:={s with heap:=g}) t (.of (TZ (s:={s with heap:=g}) (hi.keeps k) (fc (aG (.of (TZ (s:={s with heap:=g}) (M.keeps k) (aG (lB (CQ K λr P z=>?_))))))))))))))))))))))))))))))));rcases r with e|(v|_|_|_)<;>first|exact z|exact z.elim|skip
 refine cv z λB _=>?_;rename_i z;exact I B (aX (aX z))
theorem CR{c:ag ay}{a:ay}(Y:Makes (bP prog w) s.heap C)(hi:kz (bP prog w) s.heap (jD (.ref C) "__init__") (ae a))
  (m:∀f,kz (bP prog w) s.heap (bindSpecial a f) (a,[f])) (i:(ae a !=ae (T2 "object.__init__"))=am)
  (l:fG cl (bP prog w) (A.under (.builtin "type.__call__" ⟨.ref C::c,[]⟩)) (.call a ⟨.ref (s.heap.objs.size+1)::c,[]⟩) (InitBack (s.heap.objs.size+1) R) {s with heap:=(s.heap.push sK).push (vp C s.heap.objs.size)}):
  fG cl (bP prog w) A (.call (.ref C) ⟨c,[]⟩) R s:=by
 refine Ql Y.obj λu r y q n x v p=>?_;have j:=bJ (s.heap.push sK) (o:=vp C s.heap.objs.size) J;rw[gA] at j;exact tY n p Y.call Y.typ Y.made Y.self hi (m _) (λb o e=>aN _ (aN _ e)) j J (λg=>new_K (h:=s.heap) (g:=s.gens) (d:=s.drawn) (t:=s.toks) (os:=s.os) Y hi (.inl i) g) l
end
end Mi
end
section
namespace Mi
open PySem PySem.W PySem.Calls PyProof.Rows
namespace BA
theorem mro:mroOf (.type "bytearray")=pure [.type "bytearray",.type "object"]:=by refine I (mroOf_type ..) ?_;kernel_rfl
theorem CB:jD (.type "bytearray") "__new__"=pure (ae (.builtin "bytearray.__new__")):=by refine I (eT ..) (I cK ?_);kernel_rfl
theorem sV:Slot "bytearray" "__init__" "bytearray.__init__":=
 .of (owner:="bytearray") (n:="__init__") (by refine I (eT ..) (I cK ?_);kernel_rfl) (by decide+kernel) (by decide+kernel) (by decide+kernel)
  (by first|exact .inl (by decide+kernel)|exact .inr (by decide+kernel)) (by refine I (rK ..) ?_;kernel_rfl)
theorem sub:V7 (.type "bytearray") (.type "bytearray")=pure am:=by refine I (rK ..) ?_;kernel_rfl
theorem made:zQ (.type "bytearray")=pure (ae "bytearray.__new__"):=madeBy_type mro CB (by decide+kernel)
theorem HO:checkTypeCall "bytearray" ⟨[],[]⟩=pure ():=by kernel_rfl
theorem Lp:ph "bytearray.__new__" ⟨[.type "bytearray"],[]⟩=pure ():=by kernel_rfl
theorem ET:rM GD "bytearray.__new__"=ae Builtin.«list.__new__»:=entryFor_alias (id':="list.__new__") (by kernel_rfl) (by decide+kernel) (by decide+kernel) (by kernel_rfl)
theorem xL:plainId "bytearray.__new__"=am:=by decide+kernel
theorem Es:("bytearray.__new__".splitOn ".__new__").headD ""="bytearray":=I PySem.W.split_bytearray J
theorem CN:rM GD "bytearray.__init__"=ae Builtin.«bytearray.__init__»:=vK (by kernel_rfl)
theorem Fs(a:ay):W5 "bytearray.__init__" ⟨[a],[]⟩:=by
 unfold W5;refine I (CY (id:="bytearray.__init__") (n:=['_','_','t','i','n','i','_','_']) (o:=['y','a','r','r','a','e','t','y','b']) (by kernel_rfl) owner) ?_;kernel_rfl
theorem Iz(b:Args):wx (.builtin "bytearray.__init__" b):=yD (λa p c=>by kernel_rfl) (λa p v r c=>by kernel_rfl) b
theorem Fe:Qa "bytearray.__init__" "bytearray" ["source","encoding","errors"] [] []=pure [none,none,none]:=by kernel_rfl
theorem release:jD (.type "bytearray") "__release_buffer__"=pure (ae (.builtin "bytearray.__release_buffer__")):=by refine I (eT ..) (I cK ?_);kernel_rfl
theorem jF:jD (.type "bytearray") "__buffer__"=pure (ae (.builtin "bytearray.__buffer__")):=by refine I (eT ..) (I cK ?_);kernel_rfl
theorem Iv:jD (.type "bytearray") "__bytes__"=pure ax:=by refine I (eT ..) (I cK ?_);kernel_rfl
theorem Lo:jD (.type "bytearray") "__index__"=pure ax:=by refine I (eT ..) (I cK ?_);kernel_rfl
end BA
section
variable{cl:aD}{prog:dZ}{w:dj}{A:cG}{E:ay->aA->Prop}{s:aA}
theorem As{M:lP}{a:bk}{b:fK}{id:fK}{Q:aD->aA->Prop}(c:s.TypeIs (.ref a) "bytearray")(d:jD (.type "bytearray") (b:bR)=pure (ae (.builtin id)))
  (e:id.endsWith ("."++b)=am) (f:id.dropRight (b.length+1)="bytearray") (h:Q am s):cu M A (V9 (.ref a) b) Q E s:=by
 unfold V9;refine aB (iE c d ?_);dsimp only;exact I e (I f (wpAny_isInstance c BA.sub h))
theorem qa{M:lP}{a:bk}{Q:aD->aA->Prop}(b:s.TypeIs (.ref a) "bytearray")(h:Q ai s):cu M A (us (.ref a)) Q E s:=by
 unfold us;exact aB (As b BA.release (by decide+kernel) (by decide+kernel) (aP h))
theorem AW{a:ay->aA->Prop}(h:a (.ref s.heap.objs.size) {s with heap:=s.heap.push {cls:= .type "bytearray",data:= .bytearray #[]}}):
  tR (bP prog w) A (.call (.builtin "bytearray.__new__") ⟨[.type "bytearray"],[]⟩) (wants a E) s:=by
 refine xw (?_ :cu _ A.in1 (do ph "bytearray.__new__" ⟨[.type "bytearray"],[]⟩;again (.builtin "bytearray.__new__" ⟨[.type "bytearray"],[]⟩)) _ _ s);refine aB (jy BA.Lp (aP ⟨TV BA.xL _,codeAny_builtin_stack BA.ET J λp i=>I (zR BA.xL _) ?_⟩));have c:=BA.sub;have b:=BA.Es;obtain⟨k,g,d,tk,j⟩:=s;simp only [b];wp_walk;exact h
end
end Mi
end
section
namespace Mi
open PySem PySem.W PySem.Calls PyProof.Rows
section
variable{cl:aD}{prog:dZ}{w:dj}{A:cG}{E:ay->aA->Prop}{s:aA}
theorem wo{Q:ay->aA->Prop}(h:∀k,(∀b o,s.heap.get? b=ae o->k.get? b=ae o)->k.get? s.heap.objs.size=ae {cls:= .type "bytearray",data:= .bytearray #[] 0}->Q (.ref s.heap.objs.size) {s with heap:=k}):
  cP am (bP prog w) A (cX (.type "bytearray") []) Q E s:=by
 refine lB (da (λd d d=>rfl) (?_ :cP am _ _ (callAny (.type "bytearray") _) _ _ _));refine aX (a:=Fin.again (.builtin "type.__call__" ⟨[.type "bytearray"],[]⟩)) ⟨DN _ (by decide+kernel),qM (λd=>rZ _) entry_typeCall (I (Around.under_plain (weight_type_call_type "bytearray" [] []) J) (?_ :cP am _ _ (Builtin.«type.__call__» ⟨[.type "bytearray"],[]⟩) _ _ _))⟩;unfold Builtin.«type.__call__»;dsimp only;refine cM (aa J) (cM (I (show((Manifest.find? "bytearray").bind (·.mro.findSome? λt=>(Manifest.find? t).bind λb=>if b.noNew then ae am else if b.attrs.any (·.1=="__new__") then ae ai else ax)).getD ai=ai by decide+kernel) (aa J)) (I BA.HO (aG (aX (?_ :cP am _ _ (mroOf (.type "bytearray")>>=_) _ _ s)))));refine I BA.mro (aG (aX (cM (aa J) (?_ :cP am _ _ (zQ (.type "bytearray")>>=_) _ _ s))));refine I BA.made (aG (aX (aG (aX (a:=T2 "bytearray.__new__") (aG (fc (.of (wpAny_call (AW ?_)))))))));have i:(s.heap.push {cls:= .type "bytearray",data:= .bytearray #[]}).get? s.heap.objs.size=ae {cls:= .type "bytearray",data:= .bytearray #[]}:=bJ _ rfl;have j:({s with heap:=s.heap.push {cls:= .type "bytearray",data:= .bytearray #[]}}:aA).TypeIs (.ref s.heap.objs.size) "bytearray":=(aW _ i J);refine aG (.of (wpAny_isInstance j BA.sub (cM (aa J) (aG (fc ?_)))));refine aG (.of (iE j BA.sV.lookup ?_));refine fc (I (BA.sV.bind ..) (aG (aX (aG (qH (T:="bytearray") (rest:=[]) BA.sV j BA.CN (λd=>BA.Iz _) (BA.Fs _) ?_)))));refine aG (.of (qa j (cM (aa J) (?_ :cP am _ _ (Qa "bytearray.__init__" "bytearray" ["source","encoding","errors"] [] []>>=_) _ _ _))));refine I BA.Fe (aG (aX (aG (aX (aG (aX (aG ?_)))))));refine aG (qd (?_ :cP am _ _ (Wa (.ref s.heap.objs.size)>>=_) _ _ _));refine aG ?_;refine aG (.of (mI i (aX (aX (cM (aa J) (aG (?_ :cP am _ _ (updateBytearray s.heap.objs.size (λd=> #[])) _ _ _)))))));refine aG (.of (mI i (?_ :cP am _ _ (update s.heap.objs.size (jj (λd=> #[]))>>=λd=>lookBehind s.heap.objs.size) _ _ _)));refine aG (.of (WY i ?_));have f:((s.heap.push {cls:= .type "bytearray",data:= .bytearray #[]}).update s.heap.objs.size (jj (λd=> #[]))).get? s.heap.objs.size=ae {cls:= .type "bytearray",data:= .bytearray #[] 0}:=
  eF (jj (λd=> #[])) i J;refine .of (vI f (aa J) ?_);refine cM (aa J) (cM (aa J) (aG (aX (aX (aW _ rfl ?_)))));have l:=h ((s.heap.push {cls:= .type "bytearray",data:= .bytearray #[]}).update s.heap.objs.size (jj (λd=> #[]))) (λb o e=>(nQ _ _ (pr (cr (hB e)))).trans (aN _ e)) f;refine aX ?_;dsimp only;exact cM (aa J) (aX l)
theorem Fa{M:lP}{a:bk}{f:eZ lO}{id:fK}{b:aD}{Q:av (eZ lO)->aA->Prop}(d:s.heap.get? a=ae {cls:= .type "bytearray",data:= .bytearray f 0})(h:Q (ae f) s):
  cu M A (yN id (.ref a) b) Q E s:=by
 have c:s.TypeIs (.ref a) "bytearray":=(aW _ d J);refine aB (iE c BA.jF ?_);refine aB (As c BA.jF (by decide+kernel) (by decide+kernel) (cM (aa J) (aB (iE c BA.jF (?_ :cu M A (us (.ref a)>>=_) Q E s)))));exact aB (qa c (cM (aa J) (aB (qO d (aP h)))))
theorem y6{a:bk}{bs:eZ lO}{Q:ay->aA->Prop}(ha:s.heap.get? a=ae {cls:= .type "bytearray",data:= .bytearray bs 0})(hz:bs.size<=iI)(hQ:∀t k,Q (.bytes bs t) {s with toks:=k}):
  tR (bP prog w) A (.call (.builtin "bytes.__new__") ⟨[.type "bytes",.ref a],[]⟩) (wants Q E) s:=by
 refine xw (?_ :cu _ A.in1 (do ph "bytes.__new__" ⟨[.type "bytes",.ref a],[]⟩;again (.builtin "bytes.__new__" ⟨[.type "bytes",.ref a],[]⟩)) _ _ s)
 refine wpAny_bind (jy (F.bm_newCall _) (wpAny_pure ⟨TV F.bm_plain _,codeAny_builtin F.bm_entry (I (zR F.bm_plain _) ?_)⟩))
 have hT:s.TypeIs (.ref a) "bytearray":=(aW _ ha J)
 refine wpAny_bind (jy (a:=am) J (Ma J (wpAny_bind (jy F.bm_sub (Ma J (wpAny_bind (jy (F.bm_bind _) (wpAny_bind (jy (a:=()) J (wpAny_bind (jy (a:=()) J (Ma J (wpAny_bind (iE hT BA.Iv (wpAny_bind (wpAny_bind (?_ :cu _ _ (load a>>=_) _ _ _)))))))))))))))))
 refine wpAny_bind (mI ha (wpAny_pure (wpAny_pure (Ma J (wpAny_bind (iE hT BA.Lo (bm_if_true J ?_)))))))
 first
  |refine(?_ :cu _ _ (yN "bytes.__new__" (.ref a) am>>=_) _ _ _)
  |(refine wpAny_bind ?_;show cu _ _ (yN "bytes.__new__" (.ref a) am>>=_) _ _ _)
 refine wpAny_bind (Fa ha (wpAny_bind (wpAny_rule (wpAny_bind (wpAny_mkBytes ?_ hz)))))
 refine(?_ :cu _ _ (if(Value.type "bytes"==Value.type "bytes")=am then _ else _) _ _ _)
 refine bm_if_true (aa J) ?_
 first
  |exact wpAny_pure (hQ _ _)
  |exact wpAny_bind (wpAny_pure (wpAny_pure (hQ _ _)))
theorem xr{a:bk}{e:eZ lO}{Q:ay->aA->Prop}(h:s.heap.get? a=ae {cls:= .type "bytearray",data:= .bytearray e 0})(g:e.size<=iI)(i:∀t k,Q (.bytes e t) {s with toks:=k}):
 cu (bP prog w) A (cX (.type "bytes") [.ref a]) Q E s:=callType_codes (Q₁:=λd b=>b.TypeIs d "bytes"/\Q d b) F.bm_called (F.bm_typeCall _) F.entry_object_init
 (y6 h g λt k=>⟨jT _ _ _,i t k⟩) λd b c=>bX c.1 (F.args_object_init_2 d _) (object_init_meets F.bm_called.init.lookup F.bm_called.made (aa J) prog w A.in1 _ b (bX c.1 J c.2))
end
end Mi
end
section
namespace Mi
open PySem PySem.W PySem.Calls PyProof.Rows PySem.MeetsSeq
theorem gD{n:D}(h:n<=dW):n<=iI:=az h (I fp (ac J))
theorem yE{T:kq}{ρ:fD}{h:cW}{a d:bk}{c:ag V}(w:OR T ρ h a d (.list c)):∃b:eZ ay,h.IsList a b/\iD T ρ c b.toList/\b.size=c.length:=
 cY w λb n e v=>(bQ b (bQ _ e J ⟨n,rfl⟩) v v.length)
theorem fy{T:kq}{ρ:fD}{h:cW}{a d:bk}{b:ag V}{G:Prop}(w:OR T ρ h a d (.list b))(k:∀c:eZ ay,h.IsList a c->iD T ρ b c.toList->c.size=Y7 b->G):G:=kh (yE w) k
theorem nB{b:eZ lO}{l:ag D}(h:b.toList.map fz=l):b.size=(Y7 l):=I (aQ h) (I (aH ..) J)
theorem CS{b:aF}(h:rq b=am)(a:aF):NO a b=ai:=by
 refine cv ((aq _ _).mp h) λf d=>?_;have:¬((if(b==0)=am then 0 else b.natAbs.log2/30+1)>300):=by
  split
  ·exact aa J
  ·rename_i c;exact Y4 ((Qc (n:=b.natAbs) (k:=100) λe=>c (a6.mpr (Int.natAbs_eq_zero.mp e))).mpr (by lia))
 unfold NO;dsimp only;exact I (aO this) (I (vS ..) J)
section
variable{z:Z}{Lc:bS}{H q:Mi.H}{W:ay->aA->Prop}
theorem O0(p:P0 z H){r:bk}{a:eZ ay}{n m:D}{u:Tok}{l:ag V}(i:p.h.get? r=ae {cls:= .type "list",data:= .seq a m})(E:iD z.G.T p.ρ l a.toList)(K:n<=10)(Y:l.length<=10)
  (k:p.To W (.ref H.length) (H++[.list (cE n l).flatten])):cu z.G.M z.A (binaryOp .Mult (.ref r) (.int n u)) W z.Ex p.s:=by
 have L:=E.length;generalize d:((n:D):aF)=x;have N:=Y3 d;have X:a.size*x.toNat<=16777216:=az (Nat.mul_le_mul (L▸Y) (N▸K)) (ac J);have S:=AutoListH.list___mul___list_int_3 r a m x u (show¬(!P9 x)=am by simp[P9];exact⟨mN 0xd41b2b618618618618618618618610c01ac0 J d,mN 0x36ad8618618618618618618618401c01ac0d2e480 J K d⟩) (by lia) (show¬lQ (a.size*x.toNat)=am by simp only [lQ,bp,fp];exact pU.mpr X);have B:=F.slot_int_rmul;refine wpAny_binaryOp_repeat_ref (T:="list") (U:="int") (aa J) (aW _ i J) (λR=>typeIs_int R x u) noFill_list_mul F.fills_int_mul B repeat_list F.slot_int_index.lookup
  (rN B (typeIs_int _ x u) F.entry_int_rmul (F.args_int_rmul_2 _ _) (int___rmul___int_list x u r a m) (qG i J (aW _ i J) (rN F.slot_list_mul (aW _ i J) F.entry_list_mul (F.args_list_mul_2 _ _) S ⟨i,?_⟩)));have C:=cz (h:=p.h) (aE _);have w:=bJ p.h (o:={cls:= .type "list",data:= .seq (List.foldl (λQ P=>Q++P) #[] (cE (if a.isEmpty=am then 0 else x.toNat) a))}) J;refine k.new p.tk (λb o e=>aN _ e) C C ⟨_,w⟩ ⟨_,w⟩ λO s=>(dO _ _ w (iD.fH s ?_));refine I N ?_;have f:∀(k:D) (c:eZ ay),(List.foldl (λx y=>x++y) c (cE k a)).toList=c.toList++(cE k a.toList).flatten:=λk=>by
  induction k with
  |zero=>intro c;exact(bz _).symm
  |succ k t=>intro c;exact I oG (I List.foldl_cons (I (t ..) (I oG (I qF (I iG (I (a7 ..) J))))))
 have g:∀k:D,iD z.G.T p.ρ (cE k l).flatten (cE k a.toList).flatten:=λk=>by
  induction k with
  |zero=>exact .nil
  |succ k t=>exact I oG (I oG (I qF (I qF (E.append t))))
 refine I (f ..) ?_;by_cases v:a.isEmpty=am
 ·exact dG v (I (Me.mp (L.symm.trans (Array.size_eq_zero_iff.mpr (Ad.mp v)))) (I (show(cE n ([]:ag V)).flatten=[] from by simp) .nil))
 ·exact cM v (g n)
theorem O1(p:P0 z H){f:GK}{i j k:aF}{t u:Tok}(e:qz f i j=ae k)(K:p.To W (.int k) H):cu z.G.M z.A (binaryOp f (.int i t) (.int j u)) W z.Ex p.s:=by
 have g:∀{n:aF},n=k->∀t tk,W (.int n t) (up z.b p.h tk):=λe t tk=>K.val ⟨t,by exact I e J⟩ tk;have d:∀{c:aD} {n:aF},(if c=am then ae n else ax)=ae k->c=am/\n=k:=λ{c n} e=>by cases c<;>cases e;exact⟨rfl,rfl⟩
 induction f with
 |Add=>exact add_int (g (d e).2 _ _)
 |Sub=>exact sub_int (g (d e).2 _ _)
 |Mult=>
  refine cv (d (c:=decide (i.natAbs<2^31)) (n:=i*j) (by simpa using show(if i.natAbs<2^31 then _ else _)=_ from e)) λh e=>mul_int (g e _ _) (IntMulOk.of_left ?_);unfold Builtin.Int.intBits;split
  ·exact ac J
  ·rename_i m;exact bO 0xd58328240be7240 J ((Qc (n:=i.natAbs) (k:=31) λe=>m (by simpa using e)).mpr (aa h))
 |Mod=>
  refine cv (d (c:=decide (0<j)) (n:=i%j) (by simpa using show(if 0<j then _ else _)=_ from e)) λh e=>?_;have h:=aa h;exact mod_int' (NT h) (g ((Int.fmod_eq_emod_of_nonneg i (Int.le_of_lt h)).trans e) _ _)
 |LShift=>
  refine cv (d e) λh e=>?_;simp only [aq,bp] at h;exact lshift_int_small h.2.1 (j5 0x35ad871a71702ead8300 J h.2.2) (by lia) (g e _ _)
 |BitAnd=>
  refine cv (d e) λh e=>cv ((aq _ _).mp h) λa l=>and_int (g (Eq.trans ?_ e) _ _);unfold Builtin.bitAnd;exact I a (I l J)
 |FloorDiv=>
  refine cv (d e) λh e=>cv ((aq _ _).mp h) λa l=>?_;have a:=aa a;exact floordiv_int (NT a) (g ((Int.fdiv_eq_ediv_of_nonneg i (Int.le_of_lt a)).trans e) _ _) (.inl (CS l i))
 |_=>exact nn e
theorem O2(F:z.Ok)(p:P0 z H){G:GK}{a b v:V}{x y:ay}(g:tA z.C.K H G a b v q)(i:p.vr a x)(j:p.vr b y)(k:p.To W v q):z.wp (binaryOp G x y) W p.s:=by
 refine .of ?_;induction g with
 |int e=>refine gF x i λt=>?_;refine gF y j λu=>?_;exact O1 p e k
 |str e=>
  refine cY i λx t d c=>?_;refine I d ?_;revert e k;refine sb c λe k=>cY j λy u d c=>?_;refine I d ?_;revert e k;exact sb c λe k=>add_str (λQ tk=>k.val (dO _ _ rfl iG) tk) (gD e)
 |bytes e=>
  refine cY i λx t d c=>?_;refine I d ?_;revert e k;refine sb c λe k=>cY j λy u d c=>?_;refine I d ?_;revert e k;refine sb c λe k=>?_;rw[aH,aH] at e;exact KBy.add_bytes (az e (ac J)) λQ tk=>k.val (dO _ _ rfl (I iG (I fj J))) tk
 |yn l r e=>
  refine p.iP x F.ko i l λT S f=>?_;refine cY f λB n A w=>?_;refine p.iP y F.ko j r λa2 U f=>?_;refine cY f λO m R E=>?_;have L:=cz (h:=p.h) (aE _);refine P.add_list A R ?_ (I (aQ bY) (I (aQ bY) (I w.length (I E.length (gD e)))));have i:=bJ p.h (o:={cls:= .type "list",data:= .seq (B++O)}) J;exact k.new p.tk (λb o e=>aN _ e) L L ⟨_,i⟩ ⟨_,i⟩ λN s=>(dO _ _ i (I iG (iD.fH s (w.append E))))
 |mul l e=>
  refine p.iP x F.ko i l λT S f=>?_;refine cY f λB n A w=>?_;refine gF y j λu=>?_;exact O0 p A w e.1 e.2 k
theorem rW(p:P0 z H){v:V}{x:ay}{t:aD}(g:JI v=ae t)(a:p.vr v x){U:aD->aA->Prop}(k:U t p.s):z.wp (jS x) U p.s:=by
 refine .of ?_;induction v with
 |none=>exact I (a) (truthy_none (aT g▸k))
 |bool b=>exact I (a) (wpAny_truthy_bool (aT g▸k))
 |int i=>refine gF x a λu=>?_;exact P.truthy_int (aT g▸k)
 |_=>exact nn g
end
theorem kJ(b:eZ lO)(t u:Tok)(i:D)(c:i<256):Gives (Builtin.«bytes.__contains__» ⟨[.bytes b t,.int i u],[]⟩) (.val (.bool (b.contains i.toUInt8))):=by
 refine .of_wp λM A E s Q a=>(?_ :cu M A (Builtin.Bytes.containsIn "bytes.__contains__" (.bytes b t) (.int i u)>>=λr=>ret (.bool r)) _ E s);refine aB ?_;refine aB (wpAny_attempt ?_);refine aB (aP (aP (aB (jy KBy.buffer_eq ?_))));dsimp only;exact cM (by simp only [hP,bp];exact Y2 c) (aP (aP (aW _ rfl a)))
section
variable{z:Z}{Lc:bS}{H o:Mi.H}{W:ay->aA->Prop}
theorem MJ(F:z.Ok)(p:P0 z H){v c:V}{x y:ay}{t:aD}(g:Br z.C.K H v c t)(O:p.vr v x)(Q:p.vr c y):
  (p.To W (.bool t) H->cu z.G.M z.A (vL .In x y) W z.Ex p.s)/\(p.To W (.bool !t) H->cu z.G.M z.A (vL .NotIn x y) W z.Ex p.s):=by
 have j:∀{b c:aD},c=b->p.To W (.bool b) H->∀tk,W (.bool c) (up z.b p.h tk):=λe k tk=>k.val (show _=_ by exact I e J) tk;cases g with
 | @bytes i b e=>
  refine gF x O λu=>?_;refine cY Q λy w r E=>?_;refine I r (sb E ?_);have q:y.contains i.toUInt8=(y.toList.map fz).contains i:=by
   rewrite[hU,Array.contains_iff_mem,uw,NQ,<-eH]
   exact⟨λm=>(aW _ m (I pT (I pS (Xc e)))),λS=>aM S λa m e'=>I (aQ e') (I pT (I UInt8.ofNat_toNat m))⟩
  exact⟨λk=>in_gives (jT _ y w) FB.slot_bytes_contains FB.entry_bytes_contains (W7 _ _) (kJ y w u i e) (j q k _),
   λk=>notIn_gives (jT _ y w) FB.slot_bytes_contains FB.entry_bytes_contains (W7 _ _) (kJ y w u i e) (j (by exact I q J) k _)⟩
 | @str Y=>
  refine cY O λx u r e=>?_;refine I r (cY Q λy w r E=>?_);refine I r (sb E ?_);obtain rfl:x=⟨#[Y]⟩:=pJ e;exact⟨λk=>P.in_str (j (StrLaws.found_one y Y) k _),λk=>P.notIn_str (j (by exact I (StrLaws.found_one y Y) J) k _)⟩
 |seq l e=>
  rcases l with l|l
  ·refine p.iP y F.ko Q l λa d w=>?_;refine fy w λT hl L x_=>cv (vG O L e) λq g=>?_;rw[mT] at q;exact⟨λk=>SeqInW.in_listW (jW x) (λy B=>g y (eH.mpr B)) hl (j q k _),λk=>SeqInW.notIn_listW (jW x) (λy B=>g y (eH.mpr B)) hl (j (by exact I q J) k _)⟩
  ·refine p.iP y F.ko Q l λa d U=>?_;refine cY U λT n R L=>?_;refine cv (vG O L e) λq g=>?_;rw[mT] at q;exact⟨λk=>SeqRoads2.in_meets (aW _ R J) FF DM (C4 _ _) (W8 a T n ax #[] x (jW x)) ⟨R,λy B=>(g y (eH.mpr B)).at _ _,_,rfl,j q k _⟩,
    λk=>SeqRoads2.notIn_meets (aW _ R J) FF DM (C4 _ _) (W8 a T n ax #[] x (jW x)) ⟨R,λy B=>(g y (eH.mpr B)).at _ _,_,rfl,j (by exact I q J) k _⟩⟩
 | @dict _ _ N l e=>
  refine p.iP y F.ko Q l λa d w=>?_;refine yK F.hv O w e λk' f hi hm hf X=>?_;have Z:(f k').isSome=(dp v N).isSome:=by
   cases q:dp v N with
   |none=>exact I (X q) J
   |some v=>exact aM (hf v q) λy B x_=>I B J
  exact⟨λk=>wpAny_in_of hi w.1 hm (j Z k _),λk=>wpAny_notIn_of hi w.1 hm (j (by exact I Z J) k _)⟩
theorem VR.At{T:kq}{ρ:fD}{v:V}{x:ay}(h:VR T ρ v x)(n:v≠.none):x≠.none:=λe=>by
 revert h;refine I e λh=>?_;induction v with
 |none=>exact n J
 |int=>refine cs h λa q=>?_;cases q
 |str=>refine cY h λa a q a=>?_;cases q
 |bytes=>refine cY h λa a q a=>?_;cases q
 |ref=>refine cY h λa a q a=>?_;cases q
 |_=>cases h
theorem AD{T:kq}{ρ:fD}{g f:ag V}{e d:ag ay}(h:iD T ρ g e):iD T ρ f d->Y7 g=Y7 f->(∀p∈g.zip f,(iY p.2 p.1).isSome=am)->
  ((tH (Y7 e)).all λj=>match e[j]?,d[j]? with|some a,some b=>jW b a|_,_=>ai)=((g.zip f).all λp=>iY p.2 p.1==some am)/\
  ∀j (s:j<Y7 e) (q:j<Y7 d),EqGives e[j] d[j] (jW d[j] e[j]):=by
 induction h generalizing f d with
 |nil=>exact λi i i=>⟨rfl,λi h=>cq h (oD _)⟩
 | @cons a x g e h t w=>
  intro k n c;induction k with
  |nil=>cases n
  | @cons b y f d k u=>
   refine cv (w u (lR n) λp B=>c p (.tail _ B)) λA z=>cs (d8.mp (c (a,b) (.head _))) λr m=>cv (yz k h (Jn m)) λl v=>?_;constructor
   ·refine I bv (I List.range_succ_eq_map (I ju (I lT (I kS (I ju (I (aQ A) ?_))))));congr 1;refine(?_ :jW y x=_);refine I l (I m ?_);cases r<;>rfl
   ·intro j s q;induction j with
    |zero=>exact l.symm▸v
    |succ j=>exact z j (tF s) (tF q)
theorem rX(F:z.Ok)(p:P0 z H){op:GL}{a b:V}{t:aD}{x y:ay}(g:kg z.C.K H op a b t)(r:p.vr a x)(L:p.vr b y)(k:p.To W (.bool t) H):z.wp (vL op x y) W p.s:=by
 refine .of ?_;have d:∀{c:aD},c=t->∀tk,W (.bool c) (up z.b p.h tk):=λe tk=>k.val (show _=_ by exact I e J) tk;cases g with
 |int e=>
  refine gF x r λu=>?_;refine gF y L λw=>?_;cases op with
  |Lt=>exact PyProof.Rows.lt_int (d (aT e) _)
  |LtE=>exact PyProof.Rows.le_int (d (aT e) _)
  |Gt=>exact PyProof.Rows.gt_int (d (aT e) _)
  |GtE=>exact PyProof.Rows.ge_int (d (aT e) _)
  |Eq=>exact eq_int (d (aT e) _)
  |NotEq=>exact PyProof.Rows.ne_int (d (aT e) _)
  |_=>exact nn e
 |str=>refine cY r λx u q i=>?_;refine I q ?_;revert d;refine sb i λd=>cY L λy w q i=>?_;refine I q ?_;revert d;exact sb i λd=>P.eq_str (d J _)
 |bytes=>refine cY r λx u q i=>?_;refine I q ?_;revert d;refine sb i λd=>cY L λy w q i=>?_;refine I q ?_;revert d;exact sb i λd=>PySem.W.eq_bytes (d (I (mP ..) J) _)
 |QD=>refine cY r λx u q i=>?_;refine I q ?_;revert d;refine sb i λd=>cY L λy w q i=>?_;refine I q ?_;revert d;exact sb i λd=>P.ne_str (d J _)
 |O6=>refine cY r λx u q i=>?_;refine I q ?_;revert d;refine sb i λd=>cY L λy w q i=>?_;refine I q ?_;revert d;exact sb i λd=>PySem.W.ne_bytes (d (I (mP ..) J) _)
 | @eS n m xs Z g1 g2 ne c=>
  refine p.jd x r g1 λa1 d1 v=>?_;refine cv v λx_ w1=>?_;refine p.jd y L g2 λa2 d2 v=>?_;refine cv v λx_ w2=>?_;refine fy w1 λN S M Q=>fy w2 λB G E O=>?_;have R:=cR (cH _ _) F.un;by_cases f:(Y7 xs)=(Y7 Z)
  ·refine cv (AD M E f c) λY X=>SeqAt.eq_listAt (e:=λj=>match N.toList[j]?,B.toList[j]? with|some a,some b=>jW b a|_,_=>ai) S G (ri 0xdc20300c1d300c2c01034 J Q O f) R (λj U T=>?_) (d ?_ _)
   ·refine I (aI (l:=N.toList) U) ?_;refine I (aI (l:=B.toList) T) ?_;exact(X j U T).at z.A.in1 p.s
   ·unfold oQ;exact I (aQ Y) (I (aR f) (I bY J))
  ·exact SeqAt.eq_list_lengthsAt S G (by simp;exact WV Q O f) R (d (by unfold oQ;exact I (aO f) J) _)
 | @QG n m xs Z g1 g2 c=>
  refine p.jd x r g1 λa1 d1 v=>?_;refine cv v λx_ w1=>?_;refine p.jd y L g2 λa2 d2 v=>?_;refine cv v λx_ w2=>?_;refine fy w1 λN S M Q=>fy w2 λB G E O=>?_;have R:=cR (cH _ _) F.un;by_cases f:(Y7 xs)=(Y7 Z)
  ·refine cv (AD M E f c) λY X=>SeqAt.RcNeAt.lists (e:=λj=>match N.toList[j]?,B.toList[j]? with|some a,some b=>jW b a|_,_=>ai) S G (ri 0xdc20300c1d300c2c01034 J Q O f) R (λj U T=>?_) _ _ _ _ (d ?_ _)
   ·refine I (aI (l:=N.toList) U) ?_;refine I (aI (l:=B.toList) T) ?_;exact(X j U T).at z.A.in1 p.s
   ·unfold oQ;exact I (aQ Y) (I (aR f) (I bY J))
  ·exact SeqAt.RcNeAt.lists_lengths S G (by simp;exact WV Q O f) R _ _ _ _ (d (by unfold oQ;exact I (aO f) J) _)
 |none=>
  refine I (L) ?_;by_cases h:a= .none
  ·revert r d;exact I h λr d=>I (r) (is_none_none (d J _))
  ·exact is_none_ne (r.At h) (d (aO h).symm _)
 |some=>
  refine I (L) ?_;by_cases h:a= .none
  ·revert r d;exact I h λr d=>I (r) (isnot_none_none (d J _))
  ·exact isnot_none_ne (r.At h) (d (I (aO h) J) _)
 |s7 e=>exact(MJ F p e r L).1 k
 |MO e=>exact(MJ F p e r L).2 k
end
end Mi
end
section
namespace Mi
open PySem PySem.W PySem.Calls PyProof.Rows
section
variable{z:Z}{Lc:bS}{H B:Mi.H}{W:ay->aA->Prop}
theorem we(a:be)(o i:ay):∃b,subscripted a ai o i=PX b (xu o i):=by
 cases a with
 |Slice _ _ c _=>cases c<;>exact⟨_,rfl⟩
 |_=>exact⟨_,rfl⟩
theorem kM{M:lP}{A:cG}{E:ay->aA->Prop}{s:aA}{a:dZ}{w:dj}(n:M=bP a w){b c:be}{o i:ay}{T id:fK}{Q:ay->aA->Prop}(l:s.TypeIs o T)
  (m:jD (.type T) "__getitem__"=pure (ae (.builtin id))) (h:cu M A (xu o i) Q E s):cu M A (subscriptTail b c o i) Q E s:=by
 revert h;refine I n λh=>?_;refine aB (I (getitemInPython_of_ne l.not_modules) (aB (iE l m ?_)));have p:∀g,cu (bP a w) A (PX g (xu o i)) (λr d=>cu (bP a w) A (letTemporaryGo b o r>>=λj=>pure r) Q E d) E s:=
  λg=>wpAny_operating (iX h (λr d f=>aB (wpAny_letTemporaryGo (aP f))) λj j x=>x);have k:cu (bP a w) A (subscripted c ai o i) (λr d=>cu (bP a w) A (letTemporaryGo b o r>>=λj=>pure r) Q E d) E s:=by
  refine cs (we c o i) λg e=>?_
  refine I e ?_
  exact p g
 exact aP (aB k)
theorem uJ{i:aF}{n k:D}(h:Az i n=ae k):seqIndex? i n=ae k/\k<n/\-(2^63)<=i/\i<2^63/\(0<=i/\i.toNat=k\/i<0/\(i+n).toNat=k/\-(n:aF)<=i):=by
 unfold Az dW at h;unfold seqIndex?;split at h
 ·split at h
  ·split at h
   ·cases h;exact cM (show¬i<0 by exact j5 0xe6b200b80ac8 J ‹0<=i›) (dG (by simp;exact Y1 ‹0<=i› ‹i.toNat<n›) (GU J (by omega) (by lia) (by lia) (.inl ⟨by omega,rfl⟩)))
   ·exact nn h
  ·split at h
   ·cases h;exact dG (show i<0 by exact j5 0xdab200c40ac8 J ‹¬0<=i›) (dG (by simp;exact⟨mN 0xd68ac006b22ea2b001ac8 J ‹0<=i+↑n›,mN 0x36ac0a2b001c41ac8 J ‹¬0<=i›⟩) (GU J (Y0 ‹¬0<=i› ‹0<=i+↑n›) (by lia) (by lia) (.inr (bX (j5 0xdab200c40ac8 J ‹¬0<=i›) J (mN 0xd41b2b02ea2b001ac8 J ‹0<=i+↑n›)))))
   ·exact nn h
 ·exact nn h
theorem Ll(F:z.Ok)(p:P0 z H){q r:be}{a b v:V}{x y:ay}(g:yw z.C.K H a b v)(Q:p.vr a x)(O:p.vr b y)(k:p.To W v H):z.wp (subscriptTail q r x y) W p.s:=by
 refine .of ?_;induction g with
 | @bytes b i n c e g=>
  refine hV x Q λb t A=>?_;revert e g;refine sb A λe g=>gF y O λu=>?_;refine A4 (uJ e) λL Y G E x_=>?_;rw[aH,bY] at L;rw[dL] at g;revert k;refine sr c (bw.mp g) λo T=>λk=>?_;refine kM J (jT _ b t) pG.lookup (getItem_gives (jT _ _ t) (aa J) pG FB.entry_bytes_getitem (FB.args_bytes_getitem_2 _ _) (gives_bytes_getitem b i t u o ?_ ?_) (k.val ⟨_,rfl⟩ _))
  ·unfold Builtin.Bytes.fitsIndex;simp only [aq,bp];exact⟨Dp 0xd41b00b81b00 J G,Dp 0xd8006f001 J E⟩
  ·exact I L ((cU ..).symm.trans T)
 | @str b i n c e g=>
  refine hV x Q λb t A=>?_;revert e g;refine sb A λe g=>gF y O λu=>?_;refine A4 (uJ e) λL Y G E x_=>kM J (rH _ b t) J1.lookup (P.getItem_str (c:=c) ?_ ?_ (k.val (dO _ _ rfl J) _))
  ·simp only [vR,L7];exact⟨Dp 0xe6c001b81b00 J G,Dp 0xe0102f001 J E⟩
  ·exact I (show b.length=b.cps.toList.length from J) (I L ((cU ..).symm.trans g))
 |list l e g=>
  refine p.iP x F.ko Q l λZ d w=>?_;refine gF y O λu=>?_;refine fy w λR U j hz=>A4 (uJ e) λL Y G E N=>aM (j.get g) λy m M=>?_;rw[cU] at m;refine kM J U.typeIs list_getitem_lookup ?_;rcases N with⟨N,X⟩|⟨N,X,h7⟩
  ·exact wpAny_getItem_list U N E (I X m) (k.val M _)
  ·exact wpAny_getItem_list_neg U N (I hz h7) G (I hz (I X m)) (k.val M _)
 |bq l e g=>
  refine p.iP x F.ko Q l λZ d S=>?_;refine cY S λR n T j=>?_;refine gF y O λu=>?_;have ht:IsTup p.h Z R:=⟨_,T,rfl,n,rfl⟩;refine A4 (uJ e) λL Y G E N=>aM (j.get g) λy m M=>?_;rw[cU] at m;exact kM J ht.typeIs slot_tuple_getitem.lookup (getItem_tuple ht G E (I (show R.size=_ from j.length) L) m (k.val M _))
 |dict l e g=>
  refine p.iP x F.ko Q l λZ d w=>?_;exact yK F.hv O w e λk' f hi hm hf x_=>aM (hf _ g) λy m M=>kM J hm.typeIs slot_dict_getitem.lookup (wpAny_getItem_of hi hm m (k.val M _))
theorem mf{T:kq}{ρ:fD}{v:V}{x:ay}(h:VR T ρ v x){p:av aF}(e:part v=some p):IsPart x p/\∃q:av (aF×Tok),x=partValue q/\q.map (·.1)=p:=by
 induction v with
 |none=>exact sb (si e) (I (h) (⟨.none,none,rfl,rfl⟩))
 |int i=>refine sb (si e) (gF x h λt=>?_);exact⟨.int _ _,some (_,_),rfl,rfl⟩
 |_=>exact nn e
theorem yl{α β:Type}(f:α->β)(a:ag α)(l h:av aF):gN (a.map f) l h=(gN a l h).map f:=by
 unfold gN;exact I qS (I J6 (I (aH ..) J))
theorem IW{α:Type}(a:ag α)(l h:av aF):(gN a l h).length<=(Y7 a):=by
 exact I bE (I bM (az (d9 _ _) (jJ _ _)))
theorem fe.gN{α β:Type}{R:α->β->Prop}{a:ag α}{b:ag β}(h:fe R a b)(l u:av aF):fe R (Mi.gN a l u) (Mi.gN b l u):=by
 unfold Mi.gN;exact I h.length ((h.drop _).take _)
theorem DD(n:D)(i:aF):gu n i<=n:=Int.toNat_le.mpr (Int.max_le.mpr ⟨bN n,Int.min_le_right _ _⟩)
theorem toNat_min{k n:D}:(max 0 (min (k:aF) n)).toNat=min k n:=by
 rcases Nat.le_total k n with h|h
 ·exact I (eI h) (I (Int.min_eq_left (lU.mpr h)) (I (BB (bN _)) (z9 _)))
 ·exact I (mR h) (I (Int.min_eq_right (lU.mpr h)) (I (BB (bN _)) (z9 _)))
theorem lF{k n:D}:gu n (k:aF)=min k n:=by
 unfold gu;exact cM (Int.not_lt.mpr (bN k)) toNat_min
theorem AO(l u:av aF)(n:D):PZ l u 1 n=PZ (some ((l.elim 0 (gu n):D):aF)) (some ((u.elim n (gu n):D):aF)) 1 n:=by
 have d:∀k:D,k<=n->(k:aF)=max 0 (min (if(k:aF)<0 then(k:aF)+n else k) (n:aF)):=λk h=>cM (bO 0x39ac8ac0 J) (YZ h);have g:∀(v:av aF) (k:D),k<=n->(match v with|none=>(k:aF)|some i=>max 0 (min (if i<0 then i+n else i) n))=max 0 (min (if((v.elim k (gu n):D):aF)<0 then((v.elim k (gu n):D):aF)+n else(v.elim k (gu n):D)) (n:aF)):=λv k h=>by
  induction v with
  |none=>exact d k h
  |some i=>exact(clipAt_cast n i).symm.trans (d _ (DD n i))
 have q:=congrFun (congr (aL sliceRange (g l 0 (bU _))) (g u n (aE _))) 1;exact q
theorem Ct(b:bR){l u:av aF}(o:l.elim 0 (gu b.cps.toList.length)<=u.elim b.cps.toList.length (gu b.cps.toList.length)):GJ b l u=⟨(gN b.cps.toList l u).toArray⟩:=by
 refine Eq.trans ?_ (StrLaws.sliceText_nat b o (show u.elim b.cps.toList.length (gu b.cps.toList.length)<=b.cps.toList.length by cases u with|none=>exact aE _|some i=>exact DD _ _));unfold GJ;refine I (show b.length=b.cps.toList.length from J) ?_;rw[AO l u]
noncomputable abbrev B9(h:cW)(c b:ay):cW:=h.push {cls:= .type "slice",data:= .fields #[c,b,.none]}
theorem It(F:z.Ok)(p:P0 z H){r sl:be}{a lo hi v:V}{x j i:ay}(g:yr z.C.K H a lo hi v B)(S:p.vr a x)(R:p.vr lo j)(Q:p.vr hi i)(k:p.To W v B):
  z.wp (subscriptTail r sl x (.ref p.h.objs.size)) W (up z.b (B9 p.h j i) p.tk):=by
 have f:∀b o,p.h.get? b=ae o->(B9 p.h j i).get? b=ae o:=λb o e=>aN _ e;refine .of ?_;induction g with
 |bytes G E c=>
  refine hV x S λb t y=>?_;revert c k;refine sb y λc k=>kM J (jT _ b t) pG.lookup (getItem_meets (jT _ b t) (aa J) pG FB.entry_bytes_getitem (FB.args_bytes_getitem_2 _ _) (KBc.meets_slice2 b t _ (mf R G).1 (mf Q E).1)
   (bX (DL _ _ _ _) (az (KBc.size_picked_le b _ _) (gD (nB (b:=b) J▸c))) (λX n=>k.mZ (dO _ _ rfl ?_) n f)));exact I (KBc.picked_eq ..) (I (yl ..) J)
 |str G E c o=>
  refine hV x S λb t y=>?_;revert c o k;refine sb y λc o k=>?_;revert f;refine iu j ((mf R G).2) λpl GE=>λf=>?_;revert f;refine iu i ((mf Q E).2) λpu Fr=>λf=>?_;have P:=Ct b o;have O:∀X n,W (.str ⟨(gN b.cps.toList _ _).toArray⟩ X) (up z.b _ n):=λX n=>k.mZ (dO _ _ rfl J) n f;refine kM J (rH _ b t) J1.lookup (wpAny_getItem_str_slice (l:=pl) (u:=pu) (st:=ax) (bQ _ (bJ _ rfl) J J) J ?_);unfold sliceMade slicePicked;unfold GJ at P;refine I GE (I Fr ?_);split at P
  ·rename_i hw;exact dG hw (P▸O t p.tk)
  ·rename_i hw;exact cM hw (I P (⟨gD (az (IW _ _ _) c),O _ _⟩))
 | @list _ _ _ xs Z U l G E c=>
  refine p.iP x F.ko S l λad d w=>?_;refine fy w λvs aj af hz=>?_;have m:=Heap.IsList.push aj {cls:= .type "slice",data:= .fields #[j,i,.none]};refine kM J m.typeIs list_getitem_lookup (wpAny_getItem_list_slice m (DL ..) (mf R G).1 (mf Q E).1 .none (by simp) ?_ (I hz (gD c)));have A:=bJ (B9 p.h j i) (o:={cls:= .type "list",data:= .seq (slicePick vs Z U ax)}) J;have M:=cz (h:=p.h) (b:=(B9 p.h j i).objs.size) (I (gA ..) (dR _));refine k.new p.tk (λb o e=>aN _ (f b o e)) M M ⟨_,A⟩ ⟨_,A⟩ λT s=>(dO _ _ A ?_);exact I (slicePick_plain ..) (I (aQ bY) (iD.fH s (af.gN _ _)))
 | @f7 _ _ _ xs Z U l G E c=>
  refine p.iP x F.ko S l λad d Y=>?_;refine aM Y λbs N L=>?_;revert c k;refine sb L λc k=>kM J ((aW _ (f _ _ N) J)) BA.sU.lookup (uX (f _ _ N) (DL ..) (mf R G).1 (mf Q E).1 (gD (nB (b:=bs) J▸c)) ?_);have A:=bJ (B9 p.h j i) (o:={cls:= .type "bytearray",data:= .bytearray (GI bs Z U) 0}) J;have M:=cz (h:=p.h) (b:=(B9 p.h j i).objs.size) (I (gA ..) (dR _));refine k.new p.tk (λb o e=>aN _ (f b o e)) M M ⟨_,A⟩ ⟨_,A⟩ λT s=>(aW _ A ?_);exact I (KBc.picked_eq ..) (I (yl ..) J)
theorem xm{A:cG}{s:aA}{prog:dZ}{w:dj}{E:ay->aA->Prop}{l:bk}{items:eZ ay}{m:D}{k:aF}{t:Tok}{v:ay}{Q:xj->aA->Prop}(ho:s.heap.get? l=ae {cls:= .type "list",data:= .seq items m})
  (h0:0<=k) (hfit:k<2^63) (hn:k<items.size) (hQ:∀h' m',h'.get? l=ae {cls:= .type "list",data:= .seq (items.setIfInBounds k.toNat v) m'}->kR l s.heap h'->Q () {s with heap:=h'}):
  cu (bP prog w) A (PySem.setItem (.ref l) (.int k t) v) Q E s:=by
 have hl:s.heap.IsList l items:=⟨_,ho,rfl,m,rfl⟩;refine CV (wpAny_bind (wpAny_sequenceKey hl.typeIs (aa J) (wpAny_bind (wpAny_callSpecial?_slot (name:=bZ "__setitem__") hl.typeIs slot_list_setitem
  (vJ slot_list_setitem hl.typeIs entry_list_setitem ?_ (args_list_setitem _ _ _))))));refine(?_ :cu _ _ (Builtin.List.listSubscript? (.int k t)>>=_) _ _ s);refine wpAny_bind (wpAny_listSubscript_int (fitsIndex_of h0 hfit) ?_);revert hn hQ;refine gF k (Mf h0) λj=>λhn hQ=>?_;have hj:=dw 0xd8102fac1ac0 J hn;refine(?_ :cu _ _ ((seqItemAt l j>>=λr=>pure (r.map (j,·)))>>=_) _ _ s);refine wpAny_bind (wpAny_bind (wpAny_seqItemAt ho J (wpAny_pure (I (qq hj) ?_))));refine(?_ :cu _ _ (setSeqItemAt l j v>>=_) _ _ s);refine wpAny_bind (wpAny_setSeqItemAt ho J ?_);first
  |exact wpAny_bind (wpAny_pure (wpAny_pure ⟨.none,rfl,wpAny_pure (hQ _ _ (eF (Obj.mapSeq (·.setIfInBounds j v)) ho J) (gP ..))⟩))
  |exact wpAny_pure ⟨.none,rfl,wpAny_pure (hQ _ _ hg (gP ..))⟩
theorem Iq(F:z.Ok)(p:P0 z H){o i v:V}{x y w:ay}{U:xj->aA->Prop}(g:PQ H o i v B)(P:p.vr o x)(O:p.vr i y)(Q:p.vr v w)(k:∀q:P0 z B,L0 p q->U () q.s):z.wp (PySem.setItem x y w) U p.s:=by
 refine .of ?_;cases g with
 | @list n j xs _ g e E=>
  refine p.jd x P g λad d f=>?_;refine cv f λb r=>?_;refine cY r λvs m X u=>?_;refine gF y O λt=>?_;exact xm X (bN j) (Int.lt_trans (show(j:aF)<100001 by exact dw 0x36ad989e809ac0b9889e80906f040 J e E) (aa J)) (gC 0xdab0ab030042d2f040 J e u.length) λZ m' C h=>k (p.uY p.tk b (.inl J) h ((dO _ _ C (I Array.toList_setIfInBounds (u.set Q)))) ⟨_,C⟩) (Fm.wZ _ b (.inl J) h)
 | @dict n T _ _ g e E=>
  refine p.jd x P g λad d f=>?_;refine cv f λb w=>?_;refine cv ((aq _ _).mp e) λc1 K=>DE F.hv O c1 λ{K'} _ {knd} {iW} a N W Y=>?_;revert k K;refine I W λk K=>aM (DA a N w K) λl L G=>wpAny_setItem_pairs Y G (λZ c h=>?_) (I L.length (I fp (bO 0xd5861861860902e8262c0 J E)));have R:=EZ (d:=d) a w.1 (L.stored a.inj N Q) c;exact k (p.uY _ b (.inl J) h R (wW c λS M M A M=>⟨S,A⟩)) (Fm.wZ _ b (.inl J) h)
end
end Mi
end
section
namespace Mi
open PySem PySem.W PySem.Calls PyProof.Rows
open PySem.Builtin PySem.Builtin._codecs
theorem sI(x:bR)(t u:Tok):Builtin.«str.encode» ⟨[.str x t,.str ⟨#[97,115,99,105,105]⟩ u],[]⟩=((encodeNarrow "str.encode" asciiCodec ax (.str x t) x>>=mkBytes)>>=ret):=by
 kernel_rfl
section
variable{prog:dZ}{w:dj}{A:cG}{E:ay->aA->Prop}{s:aA}
theorem CH(l:ag D):∀b:eZ lO,l.foldl (λb y=>b++(asciiCodec.bytesOf y).toArray) b=b++(l.map iZ).toArray:=by
 induction l with
 |nil=>intro b;simp
 |cons a l c=>intro b;refine I List.foldl_cons (I (c ..) (?_ :(b++ #[a.toUInt8])++_=_));simp
noncomputable abbrev ro(a:eZ D):D:=(a.findIdx? asciiCodec.bad).getD a.size
theorem IR{a:eZ D}(h:∀y∈a,asciiCodec.bad y=ai):0+ro (a.extract 0 a.size)=a.size/\((a.extract 0 a.size).extract 0 (ro (a.extract 0 a.size))).foldl (λb y=>b++(asciiCodec.bytesOf y).toArray) #[]=a.map iZ:=by
 have c:a.extract 0 a.size=a:=by simp
 unfold ro
 refine I c (I (Array.findIdx?_eq_none_iff.mpr h) ?_);refine I Option.getD_none (I c (I (aQ (Array.foldl_toList ..)) (I (CH ..) (I (tE ..) (⟨rfl,?_⟩)))))
 simp
 exact I (aQ Xi) (I nS J)
noncomputable abbrev Rh:=D×eZ lO×Faults
noncomputable def rh(x:bR)(a:ay):{b:ag D×(D->Rh->nE (ForInStep Rh))//encodeNarrow "str.encode" asciiCodec ax a x=(forIn b.1 ((0,#[],{}):Rh) b.2>>=λb=>pure b.2.1)}:=⟨(_,_),aL (λt=>t>>=_) (Std.Legacy.Range.forIn_eq_forIn_range' ..)⟩
theorem ED(x:bR)(b:ay)(n i:D)(a:eZ lO)(st:Faults)(h:¬a.size>iI)(e:x.cps[i]? =ax):(rh x b).1.2 n (i,a,st)=pure (.done (i,a,st)):=by
 refine(bG h).trans ?_;exact I e J
theorem Cz(x:bR)(c:ay)(n i:D)(a:eZ lO)(st:Faults)(y:D)(h:¬a.size>iI)(e:x.cps[i]? =ae y)(b:asciiCodec.bad y=ai):(rh x c).1.2 n (i,a,st)=pure (.yield (i+ro (x.cps.extract i x.cps.size),((x.cps.extract i x.cps.size).extract 0 (ro (x.cps.extract i x.cps.size))).foldl (λd y=>d++(asciiCodec.bytesOf y).toArray) a,st)):=by
 refine(bG h).trans ?_;exact I e (cw (I b J))
theorem y7{M:lP}{x:bR}{a:ay}{Q:eZ lO->aA->Prop}(r:x.cps.toList.all (·<128)=am)(p:x.length<=iI)(h:Q (x.cps.map iZ) s):
  cu M A (encodeNarrow "str.encode" asciiCodec ax a x) Q E s:=by
 have i:∀(y:D),y∈x.cps->asciiCodec.bad y=ai:=λy q=>aO (Nat.not_le.mpr (aa (aS.mp r y (by simpa using q))))
 have k:=ED x a
 have j:=Cz x a
 have e:=(rh x a).2
 have c:(rh x a).1.1.length=x.cps.size:=by refine(?_ :(List.range' _ _ _).length=_);refine I List.length_range' ?_;simp[Std.Legacy.Range.size,Str.length]
 generalize(rh x a).1=b at k j e c
 obtain⟨l,g⟩:=b
 dsimp only at k j e c
 refine cv (IR i) λt a2=>I e ?_
 have f:∀l:ag D,cu M A (forIn l ((x.cps.size,x.cps.map iZ,{}):Rh) g) (λb o=>cu M A (pure b.2.1) Q E o) E s:=λl=>by
  cases l with
  |nil=>exact aP (aP h)
  |cons n l=>exact I (kO ..) (I (k _ _ _ _ (show¬(x.cps.map iZ).size>iI by exact I Array.size_map (pU.mpr p)) (show x.cps[x.cps.size]? =ax by simp)) (aB (aP (aP (aP h)))))
 refine aB ?_
 cases l with
 |nil=>
  have m:=f []
  rw[show x.cps.map iZ= #[] by refine I (BD c.symm) ?_;simp,<-c] at m
  exact m
 |cons n l=>
  have d:0<x.cps.size:=(c.symm)▸NP _
  refine I (kO ..) (I (j _ _ _ _ _ (oD _) (qq d) (i _ (Array.getElem_mem d))) ?_);exact I t (I a2 (aB (aP (f l))))
theorem sJ{x:bR}{t u:Tok}{Q:ay->aA->Prop}(b:x.cps.toList.all (·<128)=am)(a:x.length<=iI)(h:∀k tk,Q (.bytes (x.cps.map iZ) k) {s with toks:=tk}):
  cu (bP prog w) A (cX (.builtin "str.encode") [.str x t,.str ⟨#[97,115,99,105,105]⟩ u]) Q E s:=by
 refine vJ V8 (rH s x t) F.entry_str_encode ?_ (F.args_str_encode_2 _ _);refine I (sI ..) (aB (aB (y7 b a (wpAny_mkBytes ?_ (I Array.size_map a)))));exact aP (aW _ rfl (h _ _))
end
end Mi
end
section
namespace Mi
open PySem PySem.W PySem.Calls PyProof.Rows PySem.MeetsSeq
section
variable{z:Z}{Lc:bS}{H f:Mi.H}{W:ay->aA->Prop}
theorem qg{b:eZ lO}{n:D}(h:(b.toList.map fz).length<=n):b.size<=n:=nB (b:=b) J▸h
theorem CG{T:kq}{ρ:fD}:∀{d:ag aF} {a:ag ay},iD T ρ (d.map .int) a->∃c:ag (aF×Tok),a=c.map (λp=> .int p.1 p.2)/\c.map (·.1)=d:=by
 intro d;induction d with
 |nil=>intro a q;cases q;exact(aW ([]) J J)
 |cons i r j=>
  intro a q;cases q with
  |cons h t=>
   refine gF b h λu=>?_;exact aM (j t) λc g e=>aW ((i,u)::c) (I g J) (I (aQ e) J)
theorem RW(F:z.Ok)(p:P0 z H){b:D}{E:ag V}{v:V}{B:ag ay}(g:nD z.C.K H b E v)(h:iD z.G.T p.ρ E B)(k:p.To W v H):z.wp (cX (.builtin (z.G.T.HC b)) B) W p.s:=by
 refine .of ?_;have o:∀{y},p.vr v y->∀tk,W y (up z.b p.h tk):=λe tk=>k.val e tk;induction g with
 |bytes e=>
  refine aM h.dY λx A a=>?_;revert h;refine I A λh=>cY a λx t m q=>?_;rcases m with rfl;rcases q with rfl;exact I F.nm.b0 (PySem.W.len_bytes (az (qg e) (ac J)) (o ⟨_,by exact I (nB (b:=x) J) J⟩ _))
 |str e=>
  refine aM h.dY λx A a=>?_;revert h;refine I A λh=>cY a λx t m q=>?_;rcases m with rfl;rcases q with rfl;exact I F.nm.b0 (P.len_str (by have:x.length<=100000:=e;lia) (o ⟨_,rfl⟩ _))
 |list l e=>
  refine aM h.dY λx A O=>I A (p.iP x F.ko O l λY d w=>?_);exact fy w λE S Z R=>I F.nm.b0 (Calls.call_len_list S (by unfold dW at e;lia) (o ⟨_,by exact I R J⟩ _))
 |bq l e=>
  refine iu B h.dY λx O=>p.iP x F.ko O l λY d a=>?_;refine cY a λE n X Q=>?_;have R:E.size=_:=Q.length;exact I F.nm.b0 (len_tuple ⟨_,X,rfl,n,rfl⟩ (by unfold dW at e;lia) (o ⟨_,by exact I R J⟩ _))
 |f7 l e=>
  refine iu B h.dY λx O=>p.iP x F.ko O l λY d a=>?_;refine aM a λbs X m=>?_;revert e o;exact sb m λe o=>I F.nm.b0 (xq X (az (qg e) (ac J)) (o ⟨_,by exact I (nB (b:=bs) J) J⟩ _))
 |isInt=>refine hV B h.uT λx y a=>cv a λc N=>?_;refine cs c λt j=>?_;exact I j (I (N) (I F.nm.b1 (I F.nm.t1 (IsiPair.int_int (o J _)))))
 |Hh=>refine hV B h.uT λx y a=>cv a λc N=>?_;refine cs c λt j=>?_;exact I j (I (N) (I F.nm.b1 (I F.nm.t2 (IsiPair.int_bool (o J _)))))
 |Dk=>refine hV B h.uT λx y a=>cv a λc N=>?_;refine cs c λt j=>?_;exact I j (I (N) (I F.nm.b1 (I F.nm.t3 (IsiPair.int_bytes (o J _)))))
 |isBytes=>refine hV B h.uT λx y a=>cv a λc N=>?_;refine cY c λx t M Z=>?_;exact I M (I (N) (I F.nm.b1 (I F.nm.t3 (call_isinstance_yes (jT _ _ _) meta_bytes PySem.F.sub_bytes_bytes (o J _)))))
 | @abs i=>
  refine iu B h.dY λx a=>cs a λt r=>?_;exact I r (I F.nm.b2 (PyProof.Rows.call_abs_int λu tk=>o ⟨u,by congr 1;refine(?_ :(if i<0 then-i else i)=_);split<;>lia⟩ tk))
 |max=>
  refine cY h.uT λx y U a=>?_;revert h;refine I U λh=>cv a λc r=>?_;refine gF x c λt=>?_;refine cs r λu L=>?_;exact I L (I F.nm.b3 (max_two_ints F.hd λh' tk g=>k.mZ (by split<;>exact⟨_,rfl⟩) tk g))
 | @sum _ is l=>
  refine iu B h.dY λx O=>p.iP x F.ko O l λY d w=>?_;refine fy w λE S Q R=>aM (CG Q) λps e1 e2=>?_;have ew:E=intItems ps.toArray:=by
   refine I (show E=E.toList.toArray from J) ?_;refine I e1 ?_
   exact(List.map_toArray ..).symm
  rw[ew] at S;refine I F.nm.b4 (sum_intListG F.hd S λh' tk t' g=>k.mZ ⟨t',?_⟩ tk g);exact I (preSum_eq ..) (I (bK (I (aH ..) (aE _))) (I (aQ e2) J))
theorem AS{T:kq}{ρ:fD}{j:ag V}{k:ag ay}(h:iD T ρ j k):∀{b:ag D},qj j=ae b->∃g:ag aF,IntsAre k g/\(∀n∈g,0<=n/\n<256)/\g.map Int.toNat=b:=by
 induction h with
 |nil=>exact λe=>(bQ ([]) .nil (λn h=>(nomatch h)) (aT e))
 | @cons v x j k h t m=>
  intro b e;induction v with
  |int i=>
   refine gF x h λu=>?_;have e:(if 0<=i/\i<256 then(qj j).map (i.toNat::·) else ax)=ae b:=e;by_cases l:0<=i/\i<256
   ·rw[cw l] at e;refine sr b (bw.mp e) λq p=>?_;exact kh (m p) λg a c d=>bQ (i::g) (.cons _ _ a) (λn o=>(aZ.mp o).elim (λe=>e▸l) (c n)) (aL _ d)
   ·rw[bG l] at e;exact nn e
  |_=>exact nn e
theorem RU(F:z.Ok)(p:P0 z H){t:D}{j:ag V}{v:V}{c:ag ay}(g:Fu z.C.ba z.C.K H t j v f)(h:iD z.G.T p.ρ j c)(k:p.To W v f):z.wp (cX (.type (z.G.T.Aj t)) c) W p.s:=by
 induction g with
 |f7 l e=>
  refine iu c h.dY λx y=>p.iP x F.ko y l λO d a=>?_;refine aM a λbs ho m=>?_;revert e k;exact Mi.sb m λe k=>I F.nm.t3 (.of (xr ho (gD (qg e)) λt n=>k.val (dO _ _ rfl J) n))
 |list l e o=>
  refine iu c h.dY λx y=>p.iP x F.ko y l λO d w=>?_;refine fy w λj hl L Y=>?_;revert k;refine Sn b (AS L o) λns h1 Q=>λk=>?_;refine I F.nm.t3 (.of (call_bytes_ints (vs:=j.toList) (I nS hl) h1 Q (I bY (I Y (gD e))) F.hd λS t n hk=>k.mZ (dO _ _ rfl ?_) n hk));exact I pB (S5 λn hn=>by refine(?_ :(n.toNat.toUInt8).toNat=n.toNat);have:=Q n hn;refine I pT (I pS ?_);lia)
 |new b=>
  cases h;refine I F.nm.t5 ?_;have:=F.ba.symm.trans b;unfold Z.wp;refine I this ?_;have r:=cz (h:=p.h) (aE _);exact wo λS g N=>k.new p.tk g r r ⟨_,N⟩ ⟨_,N⟩ λE s=>(aW (#[]) N J)
 |cp l e=>
  refine iu c h.dY λx y=>p.iP x F.ko y l λO d w=>?_;refine cY w λU n B A=>?_;have r:=cz (h:=p.h) (aE _);refine I F.nm.t4 (.of (call_list_seq O (.inl J) B J J (λS c' g M=>?_) (I fp (dw 0x35618618618241c0006e6227a0240 J e A.length))));exact k.new _ g r r ⟨_,M⟩ ⟨_,M⟩ λE X=>(dO U c' M (A.fH X))
 | @str i e=>
  refine iu c h.dY λx a=>cs a λu q=>?_;refine I q (I F.nm.t6 (.of (PySem.P.str_of_int ?_ (k.val (dO _ _ rfl ?_) _))))
  ·refine(?_ :i.log2<_);by_cases R:i=0
   ·exact I R (ac J)
   ·exact bO 0x366203c0be7240 J ((Qc (n:=i) (k:=31) R).mpr (by lia))
  ·exact I (Str.ofString_eq_toList ..) J
end
theorem uZ:PlainAttrs "bytearray":=
 ⟨(aW ("bytearray.__getattribute__") (by refine I (eT ..) (I cK ?_);kernel_rfl) (by decide+kernel)),by refine I (eT ..) (I cK ?_);kernel_rfl⟩
noncomputable def HF:ag bR:=[bZ "append",bZ "extend",bZ "reverse",bZ "get",bZ "encode",bZ "split",bZ "",bZ "index"]
noncomputable def mE(a:D):bR:=(HF[a-1000]?).getD ⟨#[]⟩
noncomputable def UO:ag (ag fK):=[["str.encode","str.split"],["list.append","list.extend","list.reverse","","","","","list.index"],["bytearray.append"],["","","","dict.get"]]
noncomputable def Bn(t a:D):fK:=(((UO[t]?).getD [])[a-(if t=0 then 1004 else 1000)]?).getD ""
theorem PI:mE 1004=bZ "encode"/\Bn 0 1004="str.encode":=⟨rfl,rfl⟩
theorem PC:mE 1005=bZ "split"/\Bn 0 1005="str.split":=⟨rfl,rfl⟩
theorem PK:mE 1000=bZ "append"/\Bn 1 1000="list.append":=⟨rfl,rfl⟩
theorem PH:mE 1001=bZ "extend"/\Bn 1 1001="list.extend":=⟨rfl,rfl⟩
theorem PD:mE 1002=bZ "reverse"/\Bn 1 1002="list.reverse":=⟨rfl,rfl⟩
theorem PE:mE 1007=bZ "index"/\Bn 1 1007="list.index":=⟨rfl,rfl⟩
theorem PJ:mE 1000=bZ "append"/\Bn 2 1000="bytearray.append":=⟨rfl,rfl⟩
theorem PG:mE 1003=bZ "get"/\Bn 3 1003="dict.get":=⟨rfl,rfl⟩
section
variable{z:Z}{Lc:bS}{H B:Mi.H}{W:ay->aA->Prop}
@[irreducible] def JH(M:lP)(A:cG)(s:aA)(x:ay)(t a:D):Prop:=∀(b:nE aD) (Q:ay×ag ay->aA->Prop) (E:ay->aA->Prop),Q (.builtin (Bn t a),[x]) s->cu M A (getMethod x (mE a) b) Q E s
theorem xY{p:P0 z H}{x:ay}{T:fK}{t a:D}{c:bR}{id:fK}(f:PlainAttrs T)(b:Slot T c id)(d:typeOf (.builtin id)=pure (.type "method_descriptor"))(g:mE a=c/\Bn t a=id)(j:p.s.TypeIs x T)
  (i:∀a,x= .ref a->∃o,p.h.get? a=ae o/\o.dict=ax):JH z.G.M z.A p.s x t a:=by
 unfold JH;exact λk Q E q=>by revert b;refine wP c g λe=>λb=>?_;revert d b;exact sb e λd b=>getMethod_builtin j f b d i q
theorem Lk(p:P0 z H){v:V}{a t:D}{x:ay}(g:Bq H v a t)(u:p.vr v x):JH z.G.M z.A p.s x t a:=by
 have r:∀{b:bk} {o:A2},p.h.get? b=ae o->o.dict=ax->∀c,JZ b= .ref c->∃o,p.h.get? c=ae o/\o.dict=ax:=λh n c e=>by cases e;exact aW _ h n
 induction g with
 |iW=>refine cY u λx t q i=>?_;exact I q (xY NN V8 PySem.F.type_str_encode PI (rH _ x t) λi e=>nomatch e)
 |split=>refine cY u λx t q i=>?_;exact I q (xY NN tD PySem.F.type_str_split PC (rH _ x t) λi e=>nomatch e)
 |list l e=>
  refine p.jd x u l λy d j=>?_;refine cv j λi f=>?_;refine cY f λC m k i=>?_;have w:p.s.TypeIs (.ref y) "list":=(aW _ k J);rcases e with rfl|rfl|rfl|rfl
  ·exact xY kT slot_list_append type_list_append PK w (r k J)
  ·exact xY kT J2 PySem.F.type_list_extend PH w (r k J)
  ·exact xY kT Jb PySem.F.type_list_reverse PD w (r k J)
  ·exact xY kT Mb PySem.F.type_list_index PE w (r k J)
 |f7 l=>refine p.jd x u l λy d j=>?_;refine cv j λi f=>?_;refine aM f λK k i=>?_;exact xY uZ BA.tX BA.AL PJ ((aW _ k J)) (r k J)
 |dict l=>refine p.jd x u l λy d j=>?_;refine rQ j λi i i f=>?_;refine cY f λE m k i=>?_;exact xY PySem.F.plainAttrs_dict PY PySem.F.type_dict_get PG ((aW _ k J)) (r k J)
theorem Kx{T:kq}{ρ:fD}:∀(l:ag bR) (tk:D),iD T ρ (l.map λx=>V.str x.cps.toList) (strsFrom tk l):=by
 intro a;induction a with
 |nil=>
  intro b;exact .nil
 |cons b r c=>
  intro tk;exact .cons (dO _ _ rfl J) (c (tk+1))
theorem LI{T:kq}{ρ:fD}{v:V}{x:ay}(s:VR T ρ v x){d:ag V}{f:ag ay}(h:iD T ρ d f):∀{k:D},js v d=am->d.findIdx? (λx=>iY v x==ae am)=ae k->
  (∃y,f[k]? =ae y/\jW x y=am)/\∀m y,m<k->f[m]? =ae y->jW x y=ai:=by
 induction h with
 |nil=>exact λo e=>nomatch e
 | @cons a y d f h t p=>
  intro k c e;refine cv ((aq _ _).mp c) λz w=>cs (d8.mp z) λb i=>?_;have g:=(yz s h (Jn i)).1;rw[yQ,i] at e;induction b with
  |true=>exact sb (si e) (⟨(aW y J g),λm o l=>cq l (oD _)⟩)
  |false=>
   refine sr k (bw.mp e) λj u=>?_;exact cv (p w u) λr q=>⟨r,λm n l e=>match m with
    |0=>aT e▸g
    |m+1=>q m n (tF l) e⟩
theorem Ir(p:P0 z H){x:bR}{t u:Tok}{c:D}(e:1<=x.cps.toList.length/\x.cps.toList.length<=1000)(l:c<256)(k:p.To W (.ref H.length) (H++[.list ((lZ x.cps.toList c).map V.str)])):
  cu z.G.M z.A (cX (.builtin "str.split") [.str x t,.str ⟨#[c]⟩ u]) W z.Ex p.s:=by
 have g:x.length=x.cps.toList.length:=rfl;have n:(decide (x.length<(⟨#[c]⟩:bR).length)||decide (lI x<lI ⟨#[c]⟩))=ai:=by
  rewrite[vR]
  refine⟨aO (by refine(?_ :¬x.length<1);exact dw 0xe49070001d2e009 J e.1 g),aO ?_⟩
  refine I (show lI ⟨#[c]⟩=1 from by unfold lI;exact dG (by simp;exact l) J) ?_
  unfold lI
  split
  ·exact aa J
  ·split<;>exact aa J
 have m:=cz (h:=p.h) (aE _);have a:∀(f:ag ay) tk,iD z.G.T p.ρ ((lZ x.cps.toList c).map V.str) f->W (.ref p.h.objs.size) (up z.b (p.h.push {cls:= .type "list",data:= .seq f.toArray}) tk):=λf tk h=>by
  have j:=bJ p.h (o:={cls:= .type "list",data:= .seq f.toArray}) J;exact k.new tk (λb o e=>aN _ e) m m ⟨_,j⟩ ⟨_,j⟩ λq s=>(dO _ _ j (iD.fH s h))
 unfold lZ at a;dsimp only at a;rw[show(⟨x.cps.toList.toArray⟩:bR)=x from I nS J] at a;split at a
 ·rename_i i;exact rN tD (rH _ x t) Mc (J3 _ _) (meets_str_split_not_found x ⟨#[c]⟩ t u n J i) (a [.str x t] p.tk (.cons (dO _ _ rfl J) .nil))
 ·rename_i i;refine rN tD (rH _ x t) Mc (J3 _ _) (meets_str_split_sep x ⟨#[c]⟩ t u n J (by simpa using i) (I fp (dw 0x35618618618241c0006e8262c0 J e.2 g)) ?_) (a _ _ ?_)
  ·refine(?_ :(qR x _ 1).length<=_);unfold qR;simp only [aH,List.length_zip,bv,au,List.length_nil];exact I fp (Y6 e g (StrLaws.occ_length_le x ⟨#[c]⟩ 0 x.length (x.length+1)))
  ·exact I pB (Kx _ _)
theorem RV(F:z.Ok)(p:P0 z H){t a:D}{o v:V}{M:ag V}{x:ay}{S:ag ay}(g:Bp z.C.ba H t o a M v B)(Q:p.vr o x)(h:iD z.G.T p.ρ M S)(k:p.To W v B):z.wp (cX (.builtin (Bn t a)) (x::S)) W p.s:=by
 induction g with
 |iW a e=>
  refine cY Q λx t af Y=>?_;rcases af with rfl;rcases Y with rfl;refine aM h.dY λy aj c=>?_;revert h;refine I aj λh=>cY c λy u N e2=>?_;revert h;refine I N λh=>?_;obtain rfl:y=⟨#[97,115,99,105,105]⟩:=pJ e2;refine .of (sJ a (gD e) λn tk=>k.val (dO _ _ rfl ?_) tk);refine I Xi (I pB ((S5 (g:=id) λn hn=>?_).trans (List.map_id _)));have:=aa (aS.mp a n hn);refine(?_ :(n.toUInt8).toNat=n);refine I pT (I pS ?_);lia
 |split e l=>
  refine cY Q λx t af Y=>?_;refine I af ?_;revert e k;refine Mi.sb Y λe k=>aM h.dY λy aj c=>?_;revert h;refine I aj λh=>cY c λy u N e2=>?_;revert h;refine I N λh=>?_;obtain rfl:y=⟨#[_]⟩:=pJ e2;exact .of (Ir p e l k)
 | @ii n ys v g e=>
  refine p.jd x Q g λO d c=>?_;refine cv c λE r=>?_;refine cY r λM m L A=>?_;refine iu S h.dY λy P=>?_;refine .of (V4 ⟨m,L⟩ (λh' ⟨m',hl⟩ sb=>?_) (gD (I (aQ bY) (I A.length e))));exact k.uY (rfl) p.tk E (.inl J) sb (dO _ m' hl (I Ab (A.append (.cons P .nil)))) ⟨_,hl⟩
 | @ext n m ys zs g g2 ne e=>
  refine p.jd x Q g λO d c=>?_;refine cv c λE r=>?_;refine cY r λM m L A=>?_;refine iu S h.dY λy P=>p.jd y P g2 λKK d2 c=>?_;refine cv c λx_ r=>?_;refine cY r λU m2 Id R=>?_;have l1:=A.length;have l2:=R.length;have c0:¬(!M.isEmpty&&lQ (M.size+U.size))=am:=λz=>by
   have:=((aq _ _).mp z).2;unfold lQ dW at*;simp only [bp,fp] at this;exact ri 0x3bbe80c2618618618270043c000ae6227a0268040 J e l1 l2 this
  refine .of (rN J2 (aW _ L J) PySem.F.entry_list_extend (PySem.F.args_list_extend_2 _ _)
   (PySem.AutoSeq1.list_extend_list_list_0 O M m KK U m2 c0 (by refine I fp ?_;exact gC 0x35618618618242c000ae6227a0268040 J e l1) (by refine I fp ?_;exact ri 0xd68258618618609a030b0043c000ae6227a0268040 J e l1 l2)) (bX L Id ?_));have K:=eF (Obj.mapSeq λx=>x++U) L J;exact k.uY (rfl) p.tk E (.inl J) (gP ..) (dO _ _ K (I iG (A.append R))) ⟨_,K⟩
 | @Wo n ys g e=>
  refine p.jd x Q g λO d c=>?_;refine cv c λE r=>?_;refine cY r λM m L A=>?_;cases h;refine .of (rN Jb (aW _ L J) PySem.F.entry_list_reverse (PySem.F.args_list_reverse_1 _) (PySem.AutoSeq1.list_reverse_list_0 O M m (gD (I (aQ bY) (I A.length e)))) ⟨L,?_⟩);have K:=eF (Obj.mapSeq λx=>x.reverse) L J;exact k.uY (rfl) p.tk E (.inl J) (gP ..) (dO _ _ K (I Array.toList_reverse A.reverse)) ⟨_,K⟩
 | @M0 n j ys v g e a f=>
  refine p.jd x Q g λO d c=>?_;refine cv c λE r=>?_;refine cY r λM m L A=>?_;refine iu S h.dY λy P=>?_;refine cv (LI P A a f) λGE k3=>aM GE λw k1 k2=>?_;rw[cU] at k1;revert k2;refine Sq w (pX.mp k1) λkl=>?_;intro k2;have l1:M.size=ys.length:=A.length;refine .of (rN Mb (aW _ L J) PySem.F.entry_list_index (PySem.F.args_list_index_2 _ _) (SeqAt.list_indexAt O M m ax #[] y (jW y) j kl (by unfold dW at e;lia) k2 λi hi l=>?_)
   (bX L (λw hw=>((vG P A a).2 w (eH.mpr hw)).at _ _) (k.val ⟨_,rfl⟩ _)));exact k3 i _ l (by refine I (cU) ?_;exact qq hi)
 | @Rb n i ys b g e l=>
  refine p.jd x Q g λO d c=>?_;refine cv c λE r=>?_;refine aM r λbs L X=>?_;revert e k;refine Mi.sb X λe k=>iu S h.dY λy c=>cs c λu Fr=>?_;refine I Fr ?_;unfold Z.wp;refine I (F.ba.symm.trans b) (tP L (bN i) (bO 0xdab61826b02f618240 J l) (I fp (bO 0xd58618618609a0902e6227a0240 J (qg e))) λh' sb K=>k.uY (rfl) p.tk E (.inl J) sb ((aW _ K ?_)) ⟨_,K⟩);refine I Ab (I fj (?_ :_++[(i.toUInt8).toNat]=_));exact I pT (I pS (I (Xc l) J))
 | @get n GT q g e=>
  refine p.jd x Q g λO d c=>?_;refine cv c λE w=>?_;refine iu S h.dY λy P=>?_;refine yK F.hv P w e λk' f hi hm hf IO=> .of (call_meetsIn PY hm.typeIs PySem.F.entry_dict_get (PySem.F.args_dict_get_2 _ _) (meets_dict_get _ O hi w.1) (aW f hm (k.val ?_ _)));cases q:dp _ GT with
  |none=>exact I (IO q) J
  |some v=>exact aM (hf v q) λy h1 h2=>I h1 h2
end
end Mi
end
set_option backward.match.sparseCases true
section
namespace Mi
open PySem PySem.W PySem.Calls PyProof.Rows
def gh(z:Z)(e:be)(m:E):Prop:=SE z (zN e z.aJ) (wE z.C m).1
def v9(z:Z)(e:be)(m:E):Prop:=SB z (isTrue e z.aJ (zN e z.aJ)) (wE z.C m).2
noncomputable def eR(b:ag be)(a:rP):ag (aD×nE ay):=b.map λe=>(ai,eval e a)
def JE(z:Z)(d:ag be)(b:ag E):Prop:=So z (λρ a c=>iD z.G.T ρ a c/\Y7 a=Y7 b) (pF (eR d z.aJ)) (oh z.C b)
abbrev AI(z:Z):ag be->ag E->Prop:=fe (gh z)
abbrev NK(z:Z):ag be->ag E->Prop:=fe (v9 z)
set_option backward.match.sparseCases false in
noncomputable def Bk:Const->av V
 | .none=>ae .none
 | .bool b=>ae (.bool b)
 | .int i=>ae (.int i)
 | .str x=>ae (.str x.cps.toList)
 | .bytes b=>ae (.bytes (b.map fz))
 |_=>ax
set_option backward.match.sparseCases false in
noncomputable def PB(a:ag be):be->aD
 | .Attribute .. =>am
 | .Name .. => !a.isEmpty
 |_=>ai
set_option backward.match.sparseCases false in
noncomputable def sA:be->aD
 | .Name .. | .Attribute .. | .Constant .. | .Subscript .. =>am
 | .Call f a _ _=>PB a f
 |_=>ai
theorem j9{o:be}(h:sA o=am)(b:bR)(c:rP)(a:nE ay):attributeBase o b c a=a:=by
 cases o with
 |Call f d e p=>
  cases f with
  |Attribute=>rfl
  |Name=>
   cases d with
   |nil=>exact(aC h).elim
   |cons=>rfl
  |_=>exact(aC h).elim
 |_=>first|rfl|exact(aC h).elim
set_option backward.match.sparseCases false in
noncomputable def zg:be->aD
 | .Name .. | .Constant .. | .Attribute .. | .Call .. | .Subscript .. =>am
 |_=>ai
theorem CF{e:be}(h:zg e=am)(a:rP)(w:nE ay):isTrue e a w=(w>>=λv=>iH e.pos>>=λb=>jE [v] (jS v)):=by
 cases e<;>first|rfl|exact ft h
set_option backward.match.sparseCases false in
noncomputable def nH:be->aD
 | .Set .. =>ai
 |_=>am
theorem uF{a:GL}{e:be}(h:nH e=am)(t:nE ay):DJ [a] [e] [t]=[t]:=by
 refine(?_ :[markedBehindIn a e t]=[t]);unfold markedBehindIn;exact I (show behindInMarks a e=ai by cases e<;>first|rfl|exact ft h) J
theorem WE(a:gz)(left:ay)(b:GL)(r:nE ay):W3 a left [b] [r]=(jE [left] r>>=λrv=>iH a>>=λc=>PX [left,rv] (vL b left rv)):=rfl
theorem Wl(a:gz)(left:ay)(b:GL)(r:nE ay):testChain a left [b] [r]=(jE [left] r>>=λrv=>iH a>>=λd=>PX [left,rv] (vL b left rv)>>=λc=>jE [c] (jS c)):=rfl
theorem Xp(a:gz)(left:ay)(g f:GL)(e d:nE ay):testChain a left [g,f] [e,d]=(jE [left] e>>=λrv=>iH a>>=λh=>jE [left,rv] (vL g left rv)>>=λc=>
 release [left,rv] [c]>>=λh=>jE [c,rv] (jS c)>>=λb=>if b=am then testChain a rv [f] [d] else pure ai):=rfl
section
variable{z:Z}{Lc:bS}{H:Mi.H}{W:ay->aA->Prop}
theorem Lj(p:P0 z H){v:V}{x:ay}{t:aD}(g:JI v=ae t)(a:p.vr v x){U:aD->aA->Prop}(k:U t p.s):cu z.G.M z.A (jS x) U z.Ex p.s:=by
 induction v with
 |none=>exact I (a) (truthy_none (aT g▸k))
 |bool b=>exact I (a) (wpAny_truthy_bool (aT g▸k))
 |int i=>refine gF x a λu=>?_;exact P.truthy_int (aT g▸k)
 |_=>exact nn g
theorem SE.JI(F:z.Ok){t:nE ay}{m:wV}(x:SE z t m)(c:ay->ag ay){b:gz}:SB z (t>>=λv=>iH b>>=λf=>jE (c v) (jS v)) λL Q=>m L (xB Q):=λLc H p Q W h k=>
 .bind (x _ _ p _ _ h λe q v y l r a=>aM a λt d h=> .cC (.fE (rW q.toP0 d r (k e q t t l J h))))
theorem vt(F:z.Ok){c:Const}{v:V}{x1 x2}(h:Bk c=ae v):gh z (.Constant c x1 x2) (.c v):=λLc H p Q W a k=>by
 have g:∀{y},p.vr v y->∀tk,W y (up z.b p.h tk):=λr tk=>k H ⟨p.toP0.gJ tk,p.fst⟩ v _ (Fm.refl _ _ _) r a;refine .of ?_;induction c with
 |none=>revert g;exact sb (si h) λg=>aP (g J _)
 |bool b=>revert g;exact sb (si h) λg=>aP (g J _)
 |int i=>revert g;exact sb (si h) λg=>wpAny_mkInt (g ⟨_,rfl⟩ _)
 |str x=>revert g;exact sb (si h) λg=>W2 (g (dO _ _ rfl J) _)
 |bytes b=>revert g;exact sb (si h) λg=>wpAny_mkTextBytes (g (dO _ _ rfl J) _)
 |_=>exact nn h
theorem A8(F:z.Ok){i:D}{id:bR}{b:gz}(d:z.aU[i]? =ae id)(n:(id==("__debug__":bR))=ai):gh z (.Name id b) (.l i):=λLc H p Q W a k=>aM a λv h j=>by
 refine I (jM ..) (I n ?_);obtain⟨⟨m,e,f⟩,_⟩:=p.fst;exact aM (f.2 i id v d h) λy g c=> .cC (.of (kB F.en.kind (F.en.var i id d) (I F.en.Hi e) g (k H p v y (Le.refl p) c j)))
theorem pK(F:z.Ok){v:V}{id:bR}{pos:gz}(h:z.gl id=ae v)(m:(id==("__debug__":bR))=ai):gh z (.Name id pos) (.c v):=λLc H p Q W j k=>by
 refine cv (F.iS _ _ h) λl b=>aM b λy i g=>?_;refine I (jM ..) (I m (.cC (.of (cM aC (I (loadName_read F.en.kind l) ?_)))));have a:=k H p v y (Le.refl p) (i _) j;rcases g with⟨f,n,e⟩|⟨f,q,n,e,d,o⟩
 ·exact P8 (I F.en.iS (n.keeps p.gB.keep)) e a
 ·exact loadGlobal_builtin (I F.en.iS (n.keeps p.gB.keep)) e (I F.en.blt (d.keeps p.gB.keep)) o a
theorem K1(F:z.Ok){o:be}{m:E}{b:bR}{a:D}{d:gz}(x:gh z o m)(s:z.G.T.dK a=b)(n:sA o=am):gh z (.Attribute o b d) (.at m a):=λLc H p Q W h k=>by
 refine sb s (I (arm_eval_Attribute ..) ?_);rewrite[j9 n];exact .bind (x _ _ p _ _ h λt q v y l r c=>aM c λw g h=> .cC (.bind (.fE (Hf F q.toP0 g r am λj f e i=> .bind (cP.of (wpAny_letTemporaryGo (Z.wp.pure (k _ (q.at j e) w f (l.trans e.le) i h))))))))
theorem Oz(F:z.Ok){l r:be}{m j:E}{i:GK}{d:gz}(x:gh z l m)(y:gh z r j):gh z (.BinOp l i r d) (.dy i m j):=λLc H p Q W h k=>
 .bind (x _ _ p _ _ h λe q a C A t h=> .bind (.fE (y _ _ q _ _ h λe f b B o s c=>cY c λv e g h=> .cC (.rB (O2 F f.toP0 g (o.v t) s λw v n u=>k _ (f.at w n) _ v (A.trans (o.trans n.le)) u h)))))
theorem Ou(F:z.Ok){e:be}{m:E}{d:gz}(x:gh z e m):gh z (.UnaryOp .USub e d) (.neg m):=λLc H p Q W h k=>
 .bind (x _ _ p _ _ h λg q a f l c b=>aM b λi e h=>by
  revert c;refine I e λc=>gF f c λt=>?_;exact .cC (.fE (.of (PySem.P.neg_int (k _ ⟨q.toP0.gJ (q.tk+1),q.fst⟩ (.int (-i)) _ l ⟨_,rfl⟩ h)))))
theorem Oy(F:z.Ok){l r:be}{A w:E}{m:GL}{e:gz}(x:gh z l A)(y:gh z r w)(C:nH r=am):gh z (.Compare l [m] [r] e) (.cj m A w)/\v9 z (.Compare l [m] [r] e) (.cj m A w):=by
 constructor
 ·intro Lc H p Q W h k;refine I (arm_eval_Compare ..) (I (fT ..) (I (pj ..) ?_));rewrite[uF C];exact .bind (x _ _ p _ _ h λn q a K B s h=>I (WE ..) (.bind (.fE (y _ _ q _ _ h λn d b G i o c=>aM c λt g h=> .cC (.rB (rX F d.toP0 g (i.v s) o λj v f u=>k _ (d.at j f) _ v (B.trans (i.trans f.le)) u h))))))
 ·intro Lc H p Q W h k;refine I (arm_isTrue_Compare ..) (I (fT ..) (I (pj ..) ?_));rewrite[uF C];exact .bind (x _ _ p _ _ h λn q a K B s h=>I (Wl ..) (.bind (.fE (y _ _ q _ _ h λn d b G i o c=>aM c λt g h=> .cC (.bind (.rB (rX F d.toP0 g (i.v s) o λj v f u=> .fE (rW j (v:= .bool t) J u (k _ (d.at j f) _ _ (B.trans (i.trans f.le)) J h)))))))))
theorem Ia(F:z.Ok){l r t:be}{G C B:E}{o e:GL}{n:gz}(x:gh z l G)(y:gh z r C)(w:gh z t B)(V:nH t=am):v9 z (.Compare l [o,e] [r,t] n) (.jQ o e G C B):=λLc H p Q W h k=>by
 refine I (arm_isTrue_Compare ..) (I (fT ..) (I (fT ..) (I (pj ..) (I (show DJ [o,e] [r,t] [eval r z.aJ,eval t z.aJ]=[eval r z.aJ,eval t z.aJ] from by
  refine(?_ :_::DJ [e] [t] _=_);rw[uF V]) (.bind (x _ _ p _ _ h λO q a Z U R h=>I (Xp ..) (.bind (.fE (y _ _ q _ _ h λ_ m b Y N s ⟨c,g,h⟩=> .cC (.bind (.fE (rX F m.toP0 g (N.v R) s λj v f T=> .gB (.bind (.fE (rW j (v:= .bool c) J T ?_)))))))))))))));have M:=U.trans (N.trans f.le);induction c with
 |false=>exact .pure (k _ (m.at j f) _ _ M J h)
 |true=>
  exact dG J (I (Wl ..) (.bind (.fE (w _ _ (m.at j f) _ _ h λO A d X L P i=>aM i λt g h=> .cC (.bind (.rB (rX F A.toP0 g (VR.fH (f.sub.trans L.sub) s) P λu v K S=> .fE (rW u (v:= .bool t) J S (k _ (A.at u K) _ _ (M.trans (L.trans K.le)) J h)))))))))
theorem XD(a:gz)(left:ay)(g f:GL)(e d:nE ay):W3 a left [g,f] [e,d]=(jE [left] e>>=λrv=>iH a>>=λh=>jE [left,rv] (vL g left rv)>>=λc=>
 release [left,rv] [c]>>=λh=>jE [c,rv] (jS c)>>=λb=>if b=am then W3 a rv [f] [d] else pure c):=rfl
theorem KW(F:z.Ok){l r t:be}{G C B:E}{o e:GL}{n:gz}(x:gh z l G)(y:gh z r C)(w:gh z t B)(V:nH t=am):gh z (.Compare l [o,e] [r,t] n) (.jQ o e G C B):=λLc H p Q W h k=>by
 refine I (arm_eval_Compare ..) (I (fT ..) (I (fT ..) (I (pj ..) (I (show DJ [o,e] [r,t] [eval r z.aJ,eval t z.aJ]=[eval r z.aJ,eval t z.aJ] from by
  refine(?_ :_::DJ [e] [t] _=_);rw[uF V]) (.bind (x _ _ p _ _ h λO q a Z U R h=>I (XD ..) (.bind (.fE (y _ _ q _ _ h λ_ m b Y N s ⟨c,g,h⟩=> .cC (.bind (.fE (rX F m.toP0 g (N.v R) s λj v f u=> .gB (.bind (.fE (rW j (v:= .bool c) J u ?_)))))))))))))));have M:=U.trans (N.trans f.le);induction c with
 |false=>exact .pure (k _ (m.at j f) _ v M u h)
 |true=>
  exact dG J (I (WE ..) (.bind (.fE (w _ _ (m.at j f) _ _ h λO A d X L P i=>aM i λt g h=> .cC (.rB (rX F A.toP0 g (VR.fH (f.sub.trans L.sub) s) P λT v K S=>k _ (A.at T K) _ v (M.trans (L.trans K.le)) S h))))))
theorem XE(a:gz)(c:Qb)(t u:nE ay)(ts:ag (nE ay)):boolOp a c (t::u::ts)=(t>>=λv=>iH a>>=λd=>jE [v] (jS v)>>=λb=>match c,b with
  | .And,ai| .Or,true=>pure v
  |_,_=>boolOp a c (u::ts)):=by
 rfl
noncomputable def Jq:Qb->aD
 | .And=>am
 | .Or=>ai
theorem K0(F:z.Ok)(b:gz)(d:Qb):∀{g:ag be} {f:ag E},AI z g f->SE z (boolOp b d (evalEach g z.aJ)) (wA z.C (Jq d) f):=by
 intro g f n;induction n with
 |nil=>exact λLc H p Q W h k=>h.elim
 | @cons e m r l x t j=>
  intro Lc H p Q W h k;refine I (fT ..) ?_;cases t with
  |nil=>
   exact I (pj ..) (x _ _ p _ _ h k)
  |cons G t=>
   rw[fT] at j;refine I (fT ..) (I (XE ..) (.bind (x _ _ p _ _ h λ_ q a A l i ⟨c,w,h⟩=> .cC (.bind (.fE (rW q.toP0 w i ?_))))));cases d<;>cases c<;>first|exact .pure (k _ q _ _ l i h)|exact j _ _ q _ _ h λB s v y u o h=>k _ s v y (l.trans u) o h
theorem Dc(F:z.Ok){op:Qb}{c:ag be}{b:ag E}{a:gz}(h:AI z c b):SE z (zN (.BoolOp op c a) z.aJ) (wA z.C (Jq op) b):=I (arm_eval_BoolOp ..) (K0 F a op h)
theorem KL(b:Qb){d:ag be}{c:ag E}(h:NK z d c):SB z (allTrue b d z.aJ) (NZ z.C (Jq b) c):=by
 induction h with
 |nil=>exact λLc H p Q W h k=>by cases b<;>exact .pure (k _ p _ _ (Le.refl p) J h)
 |cons x _ n=>
  intro Lc H p Q W h k;refine I (arm_allTrue_cons ..) (.bind (x _ _ p _ _ h λf q a e l g h=>?_));revert h;refine sb g λh=>?_;cases b<;>cases e<;>first|exact .pure (k _ q _ _ l J h)|exact n _ _ q _ _ h λf j v y m i h=>k _ j v y (l.trans m) i h
theorem Ao{op:Qb}{b:ag be}{c:ag E}{a:gz}(h:NK z b c):SB z (isTrue (.BoolOp op b a) z.aJ (zN (.BoolOp op b a) z.aJ)) (NZ z.C (Jq op) c):=I (arm_isTrue_BoolOp ..) (KL op h)
theorem Ot(F:z.Ok){e:be}{m:E}{d:gz}(x:gh z e m):gh z (.UnaryOp .Not e d) (.lu m):=λLc H p Q W h k=>
 .bind (x _ _ p _ _ h λj q a i l f b=>aM b λc g h=> .cC (.fE (.of (not_value (Lj q.toP0 g f (k _ q (.bool !c) _ l J h))))))
theorem KH{e:be}{m:E}{b:gz}(x:v9 z e m):v9 z (.UnaryOp .Not e b) (.lu m):=λLc H p Q W h k=>I (arm_isTrue_UnaryOp ..) (.bind (x _ _ p _ _ h λf q a d l c h=> .pure (k _ q _ _ l (I c J) h)))
theorem Ow{t b o:be}{i m j:E}{e:gz}(x:v9 z t i)(y:gh z b m)(w:gh z o j):gh z (.IfExp t b o e) (.jP i m j):=λLc H p Q W h k=>by
 refine I (arm_eval_IfExp ..) (.bind (x _ _ p _ _ h λg q a n l r h=>?_));revert h;refine sb r λh=>?_;induction n with
 |false=>exact w _ _ q _ _ h λg d v y f c h=>k _ d v y (l.trans f) c h
 |true=>exact y _ _ q _ _ h λg d v y f c h=>k _ d v y (l.trans f) c h
theorem KI{t b o:be}{i m j:E}{e:gz}(x:v9 z t i)(y:v9 z b m)(w:v9 z o j):v9 z (.IfExp t b o e) (.jP i m j):=λLc H p Q W h k=>by
 refine I (arm_isTrue_IfExp ..) (.bind (x _ _ p _ _ h λg q a n l r h=>?_));revert h;refine sb r λh=>?_;induction n with
 |false=>exact w _ _ q _ _ h λg d v y f c h=>k _ d v y (l.trans f) c h
 |true=>exact y _ _ q _ _ h λg d v y f c h=>k _ d v y (l.trans f) c h
theorem KJ(F:z.Ok){e:be}{m:E}(x:gh z e m)(b:zg e=am)(a:(wE z.C m).2=λL Q=>(wE z.C m).1 L (xB Q)):v9 z e m:=by
 unfold v9;rewrite[CF b];exact I a (SE.JI F x _)
end
end Mi
end
set_option backward.match.sparseCases false
section
namespace Mi
open PySem PySem.W PySem.Calls PyProof.Rows
noncomputable def eJ:be->aD
 | .Starred _ _=>ai
 |_=>am
theorem eX{a:rP}{c:gz}:∀{d:ag be},d.all eJ=am->P7 c (rJ d a)=eR d a:=by
 intro b;induction b with
 |nil=>
  intro i;exact J
 |cons e r ih_=>
  intro h;exact cv ((aq _ _).mp h) λg f=>I (show rJ (e::r) a=(ai,eval e a)::rJ r a by cases e<;>first|rfl|exact ft g) (aL _ (ih_ f))
theorem Em{a:rP}(c:ag be):(eR c a).any (·.1)=ai:=by
 exact I tI (jA.mpr λb b h=>nomatch h)
theorem En{a:rP}(c:ag be):(eR c a).all (!·.1)=am:=by
 exact I lT (aS.mpr λb b=>rfl)
section
variable{z:Z}{Lc:bS}{H:Mi.H}{W:ay->aA->Prop}
theorem AI.es{es:ag be}{b:ag E}(h:AI z es b):JE z es b:=by
 induction h with
 |nil=>exact λLc H p Q W h k=> .pure (k _ p _ _ (Le.refl p) ⟨.nil,rfl⟩ h)
 | @cons e m es b x t j=>
  intro Lc H p Q W h k;refine(?_ :z.wp (pF ((ai,eval e z.aJ)::eR es z.aJ)) W p.s);rewrite[pF];exact .bind (x _ _ p _ _ h λf q a o l g h=> .bind (.pure (.bind (.fE (j _ _ q _ _ h λf i r n d c h=> .pure (k _ i _ _ (l.trans d) ⟨.cons (d.v g) c.1,aL vP c.2⟩ h))))))
theorem Pt.fresh{p:Pt z Lc H}{o:O}(k:p.To W (.ref H.length) (H++[o])){c:A2}(nf:c.isFreed=ai)(w:∀a,Sub p.ρ a->∀g:cW,g.get? p.h.objs.size=ae c->OR z.G.T a g p.h.objs.size p.h.objs.size o):W (.ref p.h.objs.size) (up z.b (p.h.push c) p.tk):=by
 have f:=cz (h:=p.h) (aE _);have d:=bJ p.h nf;exact k.p0.new p.tk (λb o e=>aN _ e) f f ⟨_,d⟩ ⟨_,d⟩ λa s=>w a s _ d
theorem Oq{d:ag be}{c:ag E}{x1}{b:gz}(h:AI z d c)(r:d.all eJ=am)(t:c.length<=dW):gh z (.Tuple d x1 b) (.bq c):=λLc H p Q W n k=>I (arm_eval_Tuple ..) (I (eX r) (.cC (.bind (h.es _ _ p _ _ n λv q g u l a h=> .of (wpAny_newTuple (Pt.fresh (o:= .bq g) (λj y m i=>k _ j _ y (l.trans m) i h) J λf s w e=>(dO _ _ e (iD.fH s a.1))) (I a.1.length (I a.2 (gD t))))))))
theorem Ov{d:ag be}{c:ag E}{b:gz}(h:AI z d c)(r:d.all eJ=am)(t:c.length<=dW):gh z (.List d b) (.eS c):=λLc H p Q W n k=>I (arm_eval_List ..) (I (eX r) (.cC (.bind (h.es _ _ p _ _ n λv q g u l a h=> .of (wpAny_newList (Pt.fresh (o:= .list g) (λj y m i=>k _ j _ y (l.trans m) i h) J λf s w e=>(dO _ _ e (iD.fH s a.1))) (I a.1.length (I a.2 (gD t))))))))
theorem Ox(F:z.Ok){a:gz}:gh z (.Dict [] [] a) .QU:=λLc H p Q W h k=>by
 refine I (eval_Dict_empty ..) (.cC (.of ?_));refine tQ (Pt.fresh (o:= .dict []) (k _ · _ · · · h) J λb s d e=>⟨?_,List.nodup_nil,#[],0,e,.nil⟩);exact cs F.sm λo c=>aK.mpr λe=>gG (p.gB.keep _ _ c) (e▸cz (aE _))
theorem G3(F:z.Ok){o i:be}{f j:E}{d:gz}(x:gh z o f)(y:gh z i j):gh z (.Subscript o i d) (.sub f j):=λLc H p Q W h k=>I (arm_eval_Subscript ..) (.bind (x _ _ p _ _ h λn q a B w s h=> .bind (.fE (y _ _ q _ _ h λn e b A m r c=>aM c λv g h=> .cC (Ll F e.toP0 g (m.v s) r λu v l t=>k _ (e.at u l) _ v (w.trans (m.trans l.le)) t h)))))
def PR(z:Z)(e:av be)(m:av E):Prop:=SE z (valueOrNone (evalOpt e z.aJ)) (wO z.C m)
theorem Ih:PR z ax ax:=λLc H p Q W h k=> .pure (k _ p .none .none (Le.refl p) J h)
theorem Ig{e:be}{m:E}(x:gh z e m):PR z (ae e) (ae m):=x
theorem Os(F:z.Ok){o:be}{m s:av be}{i:E}{j l:av E}{d L:gz}(x:gh z o i)(y:PR z m j)(w:PR z s l):gh z (.Subscript o (.Slice m s ax L) d) (.hO i j l):=λLc H p Q W h k=>I (arm_eval_Subscript ..) (I (arm_eval_Slice ..) (.bind (x _ _ p _ _ h λt q a P M B h=> .bind (.fE (.bind (y _ _ q _ _ h λt K b O r A h=> .bind (.fE (w _ _ K _ _ h λ_ f c N e u ⟨v,_,g,h⟩=> .bind (.fE (.pure (.of (tQ (.cC (It F f.toP0 g ((r.trans e).v B) (e.v A) u λG v n C=>k _ (f.at G n) _ v (M.trans (r.trans (e.trans n.le))) C h))))))))))))))
end
section
variable{cl:aD}{prog:dZ}{w:dj}{A:cG}{E:ay->aA->Prop}{s:aA}
theorem CL{f:ay}{i:ag be}{a:rP}{Q:Args->aA->Prop}(h:cP cl (bP prog w) A (pF (eR i a)) (λc d=>Q ⟨c,[]⟩ d) E s):cP cl (bP prog w) A (evalArgs f am (eR i a) []) Q E s:=by
 induction i with
 |nil=>
  refine(?_ :cP cl (bP prog w) A (pF []>>=_) Q E s);refine aG (fx h (λc d g=>?_) λb b x=>x);exact fc (aG (aX (aG (aX (aX g)))))
 |cons e r=>
  refine(?_ :cP cl (bP prog w) A (pF (eR (e::r) a)>>=_) Q E s);refine aG (fx h (λc d g=>?_) λb b x=>x);exact fc (aG (aX (aG (aX (aX g)))))
theorem og{P:cW->Prop}{o:ag be}{i:rP}{l:gz}{f:ay}{first:ag ay}{Q:ay->aA->Prop}
  (B:∀h,P h->∃k,(k=Keeper.frame\/k=Keeper.machine)/\kz (bP prog w) h (keeperOf f) k)
  (h:cP cl (bP prog w) A (pF (eR o i)) (λu c=>P c.heap/\cP cl (bP prog w) A (cX f (first++u)) Q E c) E s):cP cl (bP prog w) A (vM l f first (eR o i) []) Q E s:=by
 refine aG (fc (fx (CL (Q:=λa c=>P c.heap/\cP cl (bP prog w) A (cX f (first++a.pos) a.kw) Q E c) h) (λa c d=>aG (fR ?_)) λj j x=>x));refine aM (B _ d.1) λk n L=>?_;generalize F:((eR o i).any (·.1)||([]:ag (av bR×nE ay)).any (·.1.isNone))=b;obtain rfl:ai=b:=I (aQ F) (I (Em ..) J);refine aG (.of (L.here ?_));have e:∀{t:nE ay},cP cl (bP prog w) A t Q E c->cP cl (bP prog w) A (t>>=λr=>jE [r] point>>=λj=>pure r) Q E c:=
  λy=>aG (fx y (λr q z=>aG (fc (.of (wpAny_point (aX z))))) λj j x=>x);have g (v:ay):cP cl (bP prog w) A (callMarked v f (first++a.pos) a.kw) Q E c:=by
  exact λΓ p m C=>I (Sem.wp_keep ..) (d.2 Γ p m C)
 rcases n with rfl|rfl<;>dsimp only<;>first|exact e d.2|(split<;>first|exact e d.2|exact e (g _))
end
section
variable{z:Z}{Lc:bS}{H:Mi.H}{W:ay->aA->Prop}
abbrev Rk(z:Z)(x:ay):Prop:=∀h,z.K.In h->∃k,(k=Keeper.frame\/k=Keeper.machine)/\kz z.G.M h (keeperOf x) k
theorem uG(F:z.Ok){v:V}{x:ay}{ρ:fD}(a:VR z.G.T ρ v x)(b:keeps z.G z.K v):Rk z x:=λh c=>by
 induction v with
 |fn=>exact I (a) (TY b c)
 |cls=>exact I (a) (TY b c)
 |ty=>exact I (a) (aW .machine (.inr J) Looks.now)
 |bi=>exact I (a) (aW .machine (.inr J) Looks.now)
 |_=>exact b.elim
theorem qZ(F:z.Ok){g:ag be}{e:ag E}(y:JE z g e){d:gz}{f:ay}{first:ag ay}(j:Rk z f)(p:Pt z Lc H){Q:ag V->Mi.H->Prop}(h:oh z.C e Lc Q H)
  (k:∀i (q:Pt z Lc i) b c,Le p q->iD z.G.T q.ρ b c/\Y7 b=Y7 e->Q b i->z.wp (cX f (first++c)) W q.s):z.wp (vM d f first (eR g z.aJ) []) W p.s:=
 og (P:=z.K.In) j (y _ _ p _ (λb a=>z.K.In a.heap/\z.wp (cX f (first++b)) W a) h λm q b c l r h=>⟨q.zG F,k _ q b c l r h⟩)
theorem Lm(F:z.Ok)(p:Pt z Lc H){v:V}{c:ag V}{x:ay}{b:ag ay}{Q:V->Mi.H->Prop}(d:p.vr v x)(a:iD z.G.T p.ρ c b)(f:zd v=am)(h:Gu z.C v c Q H)(k:∀v e,Q v e->p.To W v e):z.wp (cX x b) W p.s:=by
 induction v with
 |fn=>exact F.call p _ c x b Q W d a h k
 |cls=>exact F.call p _ c x b Q W d a h k
 |ty=>refine cY h λ_ _ _ _=>?_;rename_i v _ g h;exact I (d) (RU F p.toP0 g a (k _ _ h).p0)
 |bi=>refine aM h λ_ _ _=>?_;rename_i v g h;exact I (d) (RW F p.toP0 g a (k _ _ h).p0)
 |_=>exact ft f
theorem KY(F:z.Ok){v:V}{id:bR}{a b:gz}{g:ag be}{i:ag E}(d:z.gl id=ae v)(L:(id==("__debug__":bR))=ai)(e:zd v=am)(G:g.all eJ=am)(y:JE z g i):gh z (.Call (.Name id a) g [] b) (.ca (.c v) i):=λLc H p Q W h k=>by
 refine(?_ :z.wp (zN (.Name id a) z.aJ>>=λf=>vM b f [] (P7 b (rJ g z.aJ)) []) W p.s);refine I (eX G) (.bind (pK F d L (pos:=a) _ _ p (λu h=>u=v/\oh z.C i Lc (λj=>Gu z.C u j Q) h) _ ⟨rfl,h⟩ λn q u x l r K=>?_));revert d e;refine wP v K λh=>λd e=>?_;exact qZ F y (uG F r (F.keep _ _ d e)) q h λn A j M m o h=>Lm F A (m.v r) o.1 e h λv N h w y B t=>k _ w v y (l.trans (m.trans B)) t h
theorem mO{o:be}{a:bR}{b c:gz}{i f:ay}{first:ag ay}{d:ag be}{s:aA}(e:(b.endLine==c.line)=am)(k:(Y7 d)<30)
  (l:∀(j:nE aD) (Q:ay×ag ay->aA->Prop) (E:ay->aA->Prop),Q (f,first) s->cu z.G.M z.A (getMethod i a j) Q E s)
  (h:z.wp (vM c f first (eR d z.aJ) []) W s):z.wp (methodCall o a b c z.aJ i (Y7 d) (eR d z.aJ) []) W s:=by
 have g:methodCallForm (Y7 d) (eR d z.aJ) []=am:=by
  unfold methodCallForm
  refine I (En ..) ?_
  simpa using k
 unfold methodCall;refine I g (.bind (.fE (.of ?_)));unfold calleeOf;refine dG J (l _ _ _ ?_);unfold methodCallPos;refine I e ?_;exact aG (aX h)
theorem qN(o name apos args pos aJ):zN (.Call (.Attribute o name apos) args [] pos) aJ=(do
 let a<-attributeBase o name aJ (zN o aJ)
 iH apos.atName
 methodCall o name apos pos aJ a (Y7 args) (P7 pos (rJ args aJ)) []):=rfl
theorem KT(F:z.Ok){o:be}{m:E}{b:bR}{a:D}{e i:gz}{A:ag be}{R:ag E}(x:gh z o m)(y:JE z A R)(w:(if a<1000 then z.G.T.dK a else mE a)=b)(hb:sA o=am)(Z:A.all eJ=am)
  (d:(e.endLine==i.line)=am) (S:(Y7 A)<30):gh z (.Call (.Attribute o b e) A [] i) (.me m a R):=λLc H p Q W h k=>by
 refine I (qN ..) ?_;rewrite[j9 hb];refine I (eX Z) (.bind (x _ _ p _ _ h λC q Y xv l r h=> .cC ?_));unfold rY at h;by_cases U:a<1000
 ·rw[cw U] at h w;refine sb w (aM h λ_ _ _=>?_);rename_i f g h;have⟨n,c,fs,_,_,hm,_⟩:=g;exact mO d S (λP Q E N=>Ey F q.toP0 g r N) (qZ F y (λh V=>TY (F.om _ _ _ hm) V) q h λC s O X j K h=>
   F.call s (.fn f) (Y::O) _ _ Q W J (.cons (j.v r) K.1) h λv H' h M y u L=>k _ M v y (l.trans (j.trans u)) L h)
 ·rw[bG U] at h w;refine sb w (aM h λ_ _ _=>?_);rename_i t g h;refine mO d S (λP Q E N=>by have:=Lk q.toP0 g r;unfold JH at this;exact this P Q E N) (qZ F y (λh V=>(aW .machine (.inr J) Looks.now)) q h λC s O X j K B=>cY B λv C g h=>
   RV F s.toP0 g (j.v r) K.1 λM y u L=>k _ (s.at M u) v y (l.trans (j.trans u.le)) L h)
end
end Mi
end
set_option backward.match.sparseCases true
section
namespace Mi
open PySem PySem.W PySem.Calls PyProof.Rows
inductive tZ(T:kq)(ρ:fD):Fl->Bw->Prop
 |next:tZ T ρ .next .next
 |brk:tZ T ρ .brk .brk
 |ret {v:V} {y:ay} (h:VR T ρ v y):tZ T ρ (.ret v) (.ret y)
def zt{α β:Type}(z:Z)(R:fD->α->β->Prop)(t:nE β)(m:bS->(α->bS->Mi.H->Prop)->Mi.H->Prop):Prop:=∀Lc H (p:Pt z Lc H) (Q:α->bS->Mi.H->Prop) (W:β->aA->Prop),m Lc Q H->
 (∀a b (q:Pt z a b) v y,Le p q->R q.ρ v y->Q v a b->W y q.s)->z.wp t W p.s
def sE(z:Z)(st:gZ)(m:S):Prop:=zt z (tZ z.G.T) (GH st z.aJ) (wX z.C m)
def pe(z:Z)(st:ag gZ)(m:ag S):Prop:=zt z (tZ z.G.T) (nN st z.aJ) (cD z.C m)
def zK(z:Z)(t:be)(m:T):Prop:=∀Lc H (p:Pt z Lc H) v y (Q:bS->Mi.H->Prop) (U:xj->aA->Prop),NY z.C v m Lc Q H->p.vr v y->(∀a b (q:Pt z a b),Le p q->Q a b->U () q.s)->z.wp (ur t z.aJ y) U p.s
set_option backward.match.sparseCases false in
noncomputable def kP:be->aD
 | .ListComp .. | .SetComp .. | .DictComp .. =>ai
 |_=>am
theorem lC{e:be}(h:kP e=am)(t:av be)(n:D)(a:rP):swapsWith e t n a=pure ai:=by
 cases e<;>first|rfl|exact ft h
set_option backward.match.sparseCases false in
noncomputable def xR(t e:be):aD:=match t with
 | .Tuple .. =>(match e with| .Call .. | .Subscript .. =>am|_=>ai)
 | .Name .. | .Attribute .. | .Subscript .. =>am
 |_=>ai
theorem kW{t e:be}(h:xR t e=am)(a:rP):uq [t] e a=pure ax:=by
 cases t with
 |Tuple=>cases e<;>first|rfl|exact ft h
 |Name=>rfl
 |Attribute=>rfl
 |Subscript=>rfl
 |_=>exact ft h
theorem oq{c h g:cW}:∀{e:ag rP},h.FunFrames c e->(∀b o,h.get? b=ae o->(∀f,o.data≠.fields f)->∃d,g.get? b=ae d/\∀f,d.data≠.fields f)->g.FunFrames c e:=by
 intro e;induction e with
 |nil=>exact λi i=>trivial
 |cons s r j=>
  intro q k;exact uS q.2.1 λL o n m l p=>aM (k L o l p) λd a b=>(bX q.1 (tV L d n m a b) (j q.2.2 k))
section
variable{z:Z}{Lc B:bS}{H:Mi.H}
theorem ul.R9{G:Gl}{a:ag bR}{b:rP}{L:bk}(c:ul G a b L):interactive b=ai:=by
 unfold interactive;exact I c.kind J
theorem ul.block{G:Gl}{a:ag bR}{b:rP}{L:bk}(c:ul G a b L):b.blockKind= .function:=by
 unfold Env.blockKind;exact I c.kind J
theorem Pt.bL{B:bS}{d:Mi.H}{p:Pt z Lc H}{α:Type}{a:α}{U:α->aA->Prop}(k:∀q:Pt z B d,Le p q->U a q.s){c:cW}{tk:D}(r:tv z.G.T z.G.hb p.ρ d c)(st:zq z.G z.A iN p.ρ c)(f:zx z.G z.aU z.L p.ρ B c)(l:Fm (·=z.L) p.h p.ρ c p.ρ):U a (up z.b c tk):=k ⟨⟨c,tk,p.ρ,r,st⟩,f⟩ l
theorem LR.set{T:kq}{a:ag bR}{ρ:fD}{m:bR->av ay}(h:a.Nodup)(f:LR T a ρ Lc m){i:D}{x:bR}(d:a[i]? =ae x){v:V}{y:ay}(k:VR T ρ v y):LR T a ρ (cx Lc i v) (λz=>if z=x then ae y else m z):=by
 refine⟨I bC f.1,λj w u c b=>?_⟩;unfold cx at b;by_cases q:i=j
 ·revert c b;refine sb q λc b=>?_;rw[d] at c;cases c;rw[fN (f.1▸(aY.mp d).1)] at b;cases b;exact aW y (cw J) k
 ·rw[fC q] at b;exact aM (f.2 j w u c b) λg n l=>aW g ((bG λe=>q ((Wf (aY.mp d).1 h).mp (d.trans (e▸c).symm))).trans n) l
theorem nJ(F:z.Ok)(p:Pt z Lc H){i:D}{x:bR}(l:z.aU[i]? =ae x){v:V}{y:ay}(A:p.vr v y){U:xj->aA->Prop}(k:∀q:Pt z (cx Lc i v) H,Le p q->U () q.s):z.wp (nP z.aJ x y) U p.s:=by
 refine aM p.fst.ns λm r u=> .of (wpAny_bindName (wpAny_storeName_local (F.en.var i x l) (I F.en.Hi r) (λO a c=>?_) (I F.en.kind J)));rw[F.en.Hi] at a c;refine kh p.jO.fr λK E M t=>kh p.jO.qJ λo C G h=>Pt.bL k (p.gB.other p.fst.nl p.fst.lo λb o f e=>(c.2 b f).trans e) ⟨(bQ K E (oq M λb o e h=>?_) t),(bQ o ((c.2 _ (pr p.fst.ne)).trans C) G h),p.jO.nl,λd e=>e.elim,p.jO.xM⟩ ⟨(aW _ a (u.set F.en.nd l A)),p.fst.nl,p.fst.lo,p.fst.ne⟩ ⟨λb o e d f=>(c.2 b f).trans e,Sub.refl _,λd e=> .inl e⟩;by_cases q:b=z.L
 ·exact GW a λn P Q g j d=>(aW n (q▸g) (λN w=>by rw[j] at w;cases w))
 ·exact aW o ((c.2 b q).trans e) h
theorem vq:pe z [] []:=λLc H p Q W h k=>I (C3 ..) (.pure (k _ _ p _ _ (Le.refl p) .next h))
theorem sR{e:gZ}{m:S}{d:ag gZ}{b:ag S}(x:sE z e m)(y:pe z d b):pe z (e::d) (m::b):=λLc H p Q W h k=>by
 refine I (ic ..) (.bind (x _ _ p _ _ h λa a q c f l r h=>?_));induction r with
 |next=>exact y _ _ q _ _ h λa a i c f j g h=>k _ _ i c f (l.trans j) g h
 |brk=>exact .pure (k _ _ q _ _ l .brk h)
 |ret r=>exact .pure (k _ _ q _ _ l (.ret r) h)
theorem Oo(F:z.Ok){e:be}{m:E}{a:gz}(x:gh z e m)(b:kP e=am):sE z (.Expr e a) (.ex m):=λLc H p Q W h k=>by
 refine I (arm_exec_Expr ..) ?_;rewrite[lC b];exact I F.en.R9 (.cC (cM aC (.bind (.pure (cM aC (.bind (x _ _ p _ _ h λc q v y l r h=> .of (wpAny_dropValue (k _ _ q _ _ l .next h)))))))))
theorem Ie{a:gz}:sE z (.Pass a) .pa:=λLc H p Q W h k=>I (arm_exec_Pass ..) (.cC (.pure (k _ _ p _ _ (Le.refl p) .next h)))
theorem Ed{a:gz}:sE z (.Break a) .br:=λLc H p Q W h k=>I (arm_exec_Break ..) (.cC (.pure (k _ _ p _ _ (Le.refl p) .brk h)))
theorem Ic{a:gz}:sE z (.Return ax a) (.re ax):=λLc H p Q W h k=>I (NM ..) (.cC (.pure (k _ _ p _ _ (Le.refl p) (.ret (v:= .none) J) h)))
theorem KN{e:be}{m:E}{a:gz}(x:gh z e m):sE z (.Return (ae e) a) (.re (ae m)):=λLc H p Q W h k=>by
 refine I (NM ..) (?_ :z.wp (iH a>>=λb=>zN e z.aJ>>=λv=>pure (Flow.ret v)) W p.s);exact .cC (.bind (x _ _ p _ _ h λb q v y l r h=> .pure (k _ _ q _ _ l (.ret r) h)))
theorem On{t:be}{i:E}{b o:ag gZ}{m j:ag S}{f:gz}(x:v9 z t i)(y:pe z b m)(w:pe z o j):sE z (.If t b o f) (.jC i m j):=λLc H p Q W h k=>by
 refine I (arm_exec_If ..) (.cC (.bind (x _ _ p _ _ h λc q a n l r h=>?_)));revert h;refine sb r λh=>?_;induction n with
 |false=>exact w _ _ q _ _ h λc c e v y g d h=>k _ _ e v y (l.trans g) d h
 |true=>exact y _ _ q _ _ h λc c e v y g d h=>k _ _ e v y (l.trans g) d h
theorem qX(F:z.Ok){i:D}{x:bR}{a:gz}(b:z.aU[i]? =ae x):zK z (.Name x a) (.n i):=λLc H p v y Q U h c k=>I (xx ..) (.cC (nJ F p b c λq l=>k _ _ q l h))
theorem Kn(F:z.Ok){o:be}{m:E}{b:bR}{a:D}{d:gz}(x:gh z o m)(n:z.G.T.dK a=b):zK z (.Attribute o b d) (.at m a):=λLc H p v y Q U h j k=>sb n (I (arm_assign_Attribute ..) (.bind (.fE (x _ _ p _ _ h λf q t s l r c=>aM c λf g h=> .cC (.bind (.fE (He F q.toP0 g r (l.v j) λi e=>pQ (k _ _ (q.at i e) (l.trans e.le) h))))))))
theorem N9(F:z.Ok){o i:be}{f j:E}{b:gz}(x:gh z o f)(y:gh z i j):zK z (.Subscript o i b) (.su f j):=λLc H p v w Q U h t k=>I (arm_assign_Subscript ..) (.bind (.fE (x _ _ p _ _ h λd q C A l r h=> .bind (.fE (y _ _ q _ _ h λd e G u c n a=>aM a λd g h=> .cC (.bind (.fE (Iq F e.toP0 g (c.v r) n (c.v (l.v t)) λs m=>pQ (k _ _ (e.at s m) (l.trans (c.trans m.le)) h)))))))))
theorem vD(F:z.Ok){d:ag D}{o:ag (ay->nE xj)}(m:fe (λi f=>∃x,z.aU[i]? =ae x/\((∀y,f y=nP z.aJ x y)\/∃a,∀y,f y=(iH a>>=λr=>nP z.aJ x y))) d o):
  ∀{Lc:bS} (p:Pt z Lc H) {vs:ag V} {c:ag ay} {U:xj->aA->Prop},Y7 vs=Y7 d->iD z.G.T p.ρ vs c->(∀q:Pt z (ip Lc d vs) H,Le p q->U () q.s)->z.wp (CZ o c) U p.s:=by
 induction m with
 |nil=>exact λp vs c U j n k=> .pure (k p (Le.refl p))
 |cons g _ A=>
  intro Lc p vs c U j n k;refine aM g λ_ _ _=>?_;rename_i x g m;induction n with
  |nil=>cases j
  |cons h t=>
   refine .bind (.fE ?_);have b:=nJ F p g h (U:=λr u=>z.wp (CZ _ _) U u) λq l=>A q (lR j) (l.vs t) λv w=>k v (l.trans w);rcases m with e|⟨a,e⟩
   ·exact I (e ..) b
   ·exact I (e ..) (.cC b)
inductive sF:ag be->ag bR->Prop
 |nil:sF [] []
 |cons {x:bR} {pos:gz} {ts:ag be} {xs:ag bR} (t:sF ts xs):sF (.Name x pos::ts) (x::xs)
noncomputable def pL:ag be->av (ag bR)
 |[]=>ae []
 | .Name x _::r=>(pL r).map (x::·)
 |_::_=>ax
theorem Bf:∀{c:ag be} {b:ag bR},pL c=ae b->sF c b:=by
 intro a;induction a with
 |nil=>
  intro i h;exact sb (si h) .nil
 |cons t r e=>
  intro b h;cases t with
  |Name x d=>refine sr b (bw.mp h) λg f=>?_;exact .cons (e f)
  |_=>exact nn h
theorem Iw{e:ag be}{j:ag bR}(h:sF e j):∀{g:ag D},fe (λi x=>z.aU[i]? =ae x) g j->(xk e z.aJ).findIdx? (·.1)=ax/\(xk e z.aJ).length=Y7 g/\
  fe (λi f=>∃x,z.aU[i]? =ae x/\((∀y,f y=nP z.aJ x y)\/∃d,∀y,f y=(iH d>>=λm=>nP z.aJ x y))) g ((xk e z.aJ).map (·.2)):=by
 induction h with
 |nil=>exact λh=>by cases h;exact bX J J .nil
 | @cons x d e j t k=>
  intro g h;cases h with
  |cons h l=>
   refine i7 (k l) λa b c=>bX ?_ (aL vP b) (.cons (aW x h (.inr ⟨d,λy=>rfl⟩)) c);refine(?_ :List.findIdx? (·.1) ((ai,_)::xk e z.aJ)=ax);refine I (yQ) ?_;exact I a J
theorem sX(F:z.Ok)(p:Pt z Lc H){v:V}{y:ay}{f:ag V}{n:D}(r:p.vr v y)(g:Look z.C.K H v (.bq f))(u:(Y7 f)=n){U:ag ay->aA->Prop}(k:∀(q:Pt z Lc H) j,Le p q->iD z.G.T q.ρ f j->U j q.s):cu z.G.M z.A (unpackItems y n ax) U z.Ex p.s:=by
 refine p.iP y F.ko r g λa d i=>?_;refine cY i λl m t c=>?_;obtain rfl:n=l.size:=u.symm.trans c.length.symm;refine V2 F.hd ⟨_,t,rfl,m,rfl⟩ λw x=>?_;have g:∀b o,p.h.get? b=ae o->w.get? b=ae o:=λb o e=>x b o (cr (hB e)) e;exact k (p.at (p.toP0.mZ p.tk g) (p.toP0.jx _ g)) _ (p.toP0.jx p.tk g).le c
theorem N8(F:z.Ok){d:ag be}{e:ag D}{c:ag bR}{a:_}{b:gz}(w:sF d c)(t:fe (λi x=>z.aU[i]? =ae x) e c):zK z (.Tuple d a b) (.tu e):=λLc H p v y Q U ⟨C,g,f,h⟩ u k=>by
 refine i7 (Iw w t) λo n m=>I (arm_assign_Tuple ..) (.cC ?_);unfold unpack;exact I o (I n (.bind (.fE (.of (sX F p u g f λq A l r=>vD F m q f r λj s=>k _ _ j (l.trans s) h)))))
theorem Op{t e:be}{f:T}{m:E}{a:gz}(x:gh z e m)(y:zK z t f)(n:kP e=am)(g:xR t e=am):sE z (.Assign [t] e a) (.as f m):=λLc H p Q W h k=>by
 have c:∀y,assignAll y ((xk [t] z.aJ).map (·.2))=ur t z.aJ y:=λy=>by cases t<;>first|rfl|exact ft g
 refine I (mG ..) (I (show CX [t] e a.line z.aJ=pure ai from lC n _ _ _) ?_);refine I (kW g z.aJ) ?_;refine .cC (.bind (.pure (cM aC (.bind (x _ _ p _ _ h λb q v d l r h=> .bind (.pure (?_ :z.wp (assignAll d ((xk [t] z.aJ).map (·.2))>>=λb=>pure J0) W q.s)))))));exact I (c ..) (.bind (y _ _ q v d _ _ h r λb b i j h=> .pure (k _ _ i _ _ (l.trans j) .next h)))
theorem AP:∀{b:ag D} {a:ag V},b.Nodup->Y7 a=Y7 b->∀Lc:bS,ip Lc b.reverse a.reverse=ip Lc b a:=by
 intro b;induction b with
 |nil=>
  intro a;cases a with
  |nil=>exact λd d Lc=>rfl
  |cons v a=>exact λd h=>nomatch h
 |cons i b e=>
  intro a;cases a with
  |nil=>exact λd h=>nomatch h
  |cons v a=>
   intro h c Lc;rw[jm] at h;have c:=lR c;have f:=e h.2 c Lc;have k:∀{b:ag D} {a:ag V},i∉b->∀Lc,ip (cx Lc i v) b a=cx (ip Lc b a) i v:=λ{b}=>by
    induction b with
    |nil=>intro a _ Lc;rfl
    |cons j b f=>
     intro a g Lc;induction a with
     |nil=>rfl
     |cons w a=>
      rw[aZ,not_or] at g;refine(?_ :ip (cx (cx Lc i v) j w) b a=cx (ip (cx Lc j w) b a) i v);rewrite[<-f g.2];unfold cx;exact I (List.set_comm _ _ g.1) J
   refine(?_ :_=ip (cx Lc i v) b a);rewrite[k h.1];refine I (aQ f) ?_;unfold ip;exact I qE (I qE (I (jk (by exact I iF (I iF (I c J)))) (I List.foldl_append J)))
noncomputable def xE(a b:ag be):aD:=
 (a.length==2||a.length==3)&&(Y7 b)==a.length&&b.all eJ&&(a.all λt=>t.pos.line==(a.head?.map (·.pos.line)).getD 0)&& !(b.all (foldedForSure 8))&& !(b.all (constantsAlone 8))
theorem yX{f:rP}{g s:ag be}{c:ag bR}(E:sF g c)(z:∀x∈c,f.kindOf x=ae .local)(u:c.Nodup)(v:xE g s=am)(R:f.blockKind= .function){a b:_}{p q:gz}:uq [.Tuple g a p] (.Tuple s b q) f=pure (ae c):=by
 unfold xE at v;simp only [aq,bc] at v;refine cv v λo S=>?_;clear v;refine cv o λk T=>?_;clear o;refine cv k λi G=>?_;clear k;refine cv i λd U=>?_;clear i;refine cv d λK H=>?_;clear d;have n:(s.any λ| .Starred .. =>am|_=>ai)=ai:=jA.mpr λe Q=>by
  have:=aS.mp U e Q;cases e<;>first|exact aC|exact ft this
 have j:∀l,(g.all λt=>t.pos.line==l)=am->g.filterMap (λ| .Name id m=>if f.kindOf id==ae .local&&m.line==l then ae id else ax|_=>ax)=c/\Y7 c=g.length:=λl=>by
  clear K H G u;induction E with
  |nil=>exact λZ=>⟨rfl,rfl⟩
  | @cons x m g c t w=>
   intro P;refine cv ((aq _ _).mp P) λW V=>cv (w (λx O=>z x (.tail _ O)) V) λM L=>⟨?_,aL vP L⟩;refine I oH (I M ?_);simp only [(show(f.kindOf x==ae NameKind.local&&m.line==l)=am by exact I (z x (.head _)) W),if_true]
 refine cv (j _ G) λC A=>?_;unfold uq;dsimp only;have Y:((!(g.length==2||g.length==3))||(Y7 s) !=g.length||f.blockKind !=ScopeKind.function)=ai:=by
  refine I K ?_;refine I R ?_;rewrite[bne];refine I H ?_;rfl
 refine(bG (λh=>by rw[Y] at h;exact ft h)).trans ?_;refine(bG (λh=>ft (h.symm.trans n).symm)).trans ?_;generalize F:List.filterMap _ g=nm;obtain rfl:c=nm:=(F.symm.trans C).symm;have X:(Y7 c !=g.length||(Y7 c.eraseDups) !=Y7 c)=ai:=by
  have:c.eraseDups=c:=by
   clear C A z E F j
   induction c with
   |nil=>rfl
   |cons x r w=>
    rw[jm] at u;refine I List.eraseDups_cons (I (List.filter_eq_self.mpr λy N=>by
     simpa using ((λe=>u.1 (e▸N)):y≠x)) ?_);exact I (w u.2) J
  refine I this ?_;refine I A ?_;refine I (qD ..) ?_;rfl
 refine(bG (λh=>by rw[X] at h;exact ft h)).trans ?_;refine(bG (λh=>by rw[T] at h;exact ft h)).trans ?_;refine(bG (λh=>by rw[S] at h;exact ft h)).trans ?_;rfl
theorem Ib(F:z.Ok){A w:ag be}{C:ag D}{m:E}{t:ag bR}{a b:_}{j c d:gz}(x:gh z (.Tuple w b c) m)(Y:sF A t)(X:xE A w=am)(M:fe (λi x=>z.aU[i]? =ae x) C t)(T:C.Nodup)(K:t.Nodup):
  sE z (.Assign [.Tuple A a j] (.Tuple w b c) d) (.as (.tu C) m):=λLc H p Q W h k=>by
 refine I (mG ..) (I (lC (e:= .Tuple w b c) J (ae (.Tuple A a j)) d.line z.aJ) (I (yX Y (λy V=>aM (M.mem y V) λi u h=>F.en.var _ _ h) K X F.en.block) (.cC (.bind (.pure (cM aC (.bind (x _ _ p _ _ h λ_ q v P l r ⟨O,g,N,h⟩=> .bind (.pure (?_ :z.wp (rule "assign.swapped-stores">>=λu=>unpackItems P (Y7 t) ax>>=λo=>CZ (t.reverse.map λn=>nP z.aJ n) o.reverse>>=λu=>pure J0) W q.s))))))))));refine .bind (.of (wpAny_rule (.bind (.of (sX F q r g (N.trans M.length.symm) λS zs U R=>?_)))));have Z:fe (λi f=>∃x,z.aU[i]? =ae x/\((∀y,f y=nP z.aJ x y)\/∃d,∀y,f y=(iH d>>=λu=>nP z.aJ x y))) C.reverse (t.reverse.map λn=>nP z.aJ n):=by
  refine I Bz ?_
  exact(M.UC λu u h=>(by exact aW _ h (.inl λu=>rfl))).reverse
 refine .bind (vD F Z S (vs:=O.reverse) (I iF (I iF (I N J))) R.reverse λG L=> .pure ?_);revert G L;rewrite[AP T N];exact λG L=>k _ _ G _ _ (l.trans (U.trans L)) .next h
theorem Hg(p:P0 z H){h:GK}(q:zn h=am){a b:V}{x y:ay}{i:aF}(g:FC h a b i)(o:p.vr a x)(m:p.vr b y){W:ay->aA->Prop}(k:p.To W (.int i) H):z.wp (inplaceOp h x y) W p.s:=by
 revert o;refine hV a g λj l f=>λo=>?_;clear g;revert m;refine ou b f λe=>λm=>?_;clear f;refine gF x o λt=>?_;clear o;refine gF y m λu=>?_;clear m;have d:∀{c:aD} {n:aF},(if c=am then ae n else ax)=ae i->n=i:=λ{c n} e=>by cases c<;>cases e;rfl
 refine .of ?_;induction h with
 |Add=>exact wpAny_iadd_int (k.val ⟨_,by exact I (d e) J⟩ _)
 |Sub=>exact PySem.P.isub_int (k.val ⟨_,by exact I (d e) J⟩ _)
 |_=>exact ft q
theorem KR(F:z.Ok){i:D}{id:bR}{d:GK}{e:be}{m:E}{a c:gz}(f:z.aU[i]? =ae id)(S:(id==("__debug__":bR))=ai)(M:zn d=am)(x:gh z e m):sE z (.AugAssign (.Name id a) d e c) (.JV i d m):=λLc H p Q W ⟨o,N,h⟩ k=>by
 refine I (arm_exec_AugAssign ..) ?_;obtain⟨⟨R,C,G⟩,_⟩:=p.fst;exact aM (G.2 i id o f N) λy L j=> .cC (.bind (.of (kB F.en.kind (F.en.var i id f) (I F.en.Hi C) L (.bind (.fE (x _ _ p _ _ h λO q v w l r b=>aM b λn g h=> .cC (.bind (.rB (Hg q.toP0 M g (l.v j) r λA P s t=> .cC (.bind (nJ F (q.at A s) f t λu K=> .pure (k _ _ u _ _ (l.trans (s.le.trans K)) .next h))))))))))))
theorem KS(F:z.Ok){o:be}{C:E}{b:bR}{a:D}{t:GK}{e:be}{m:E}{c s:gz}(w:gh z o C)(S:z.G.T.dK a=b)(R:zn t=am)(x:gh z e m):sE z (.AugAssign (.Attribute o b c) t e s) (.v7 C a t m):=λLc H p Q W h k=>by
 refine sb S (I (arm_exec_AugAssign_2 ..) (.cC (.bind (w _ _ p _ _ h λx_ q ov xv l r f=>aM f λu g h=>?_))));exact .bind (.fE (.cC (.bind (Hf F q.toP0 g r am λP Y A N=> .bind (.fE (x _ _ (q.at P A) _ _ h λ_ j v X y M ⟨n,_,V,U,h⟩=> .cC (.rB (Hg j.toP0 R V (y.v N) M λi Z d L=> .cC (.bind (.fE (He F i U (VR.fH (A.sub.trans (y.sub.trans d.sub)) r) L λO K=> .gB (.pure (k _ _ ((j.at i d).at O K) _ _ (l.trans (A.le.trans (y.trans (d.le.trans (L0.le (p:=j.at i d) K))))) .next h)))))))))))))
end
end Mi
end
set_option backward.match.sparseCases false
section
namespace Mi
open PySem PySem.W PySem.Calls PyProof.Rows
theorem nW{g:aD}{M:lP}{A:cG}{E:ay->aA->Prop}{s:aA}{c:T5}{a:rP}{Q:Bw->aA->Prop}(i:fG g M A c (λr d=>match r with| .ok f=>Q f d| .error e=>pi M A a E e d) s):cP g M A (runOwn c a) Q E s:=by
 refine fa (fx (Kd (E:=λe d=>pi M A a E e d) (h:=ax) i) (λb b q=>q) λe d h=> .of ?_);exact iX h (λb b x=>x) λb b x=>x
theorem oV{d:aD}{b:dZ}{w:dj}{A:cG}{s:aA}{a:rP}{R:lH->aA->Prop}(h:R (.ok .next) s):fG d (bP b w) A (.block [] a) R s:=by
 refine da (λc c c=>rfl) (?_ :cP d _ _ ((nN [] a).onRaise (λx=>jL x a>>=λc=>gK x)>>=λf=>pure (Fin.done f)) _ _ s);exact I (C3 ..) (aG (fa (aX (aX h))))
theorem EA{G:Gl}{A:cG}{L:bk}{s:aA}{d:rP}{a:ag rP}{e:bk}{n:aD}{E:ay->aA->Prop}{Q:xj->aA->Prop}(b:A.frames=ae (d::a))(m:d.frame=ae L)(x:uQ G A L n e s.heap)
  (h:∀c,uQ G A L ai e c->Q () {s with heap:=c}):cu G.M A (jL (.ref e) d) Q E s:=by
 obtain⟨p,k,⟨U,g,r⟩,u,q⟩:=x;rw[b] at g;cases g;have j:∀c f,Heap.NotedW G.hb (d::a) e (.ref G.X₀) f (DI L) s.heap c->Q () {s with heap:=c}:=λc f o=>rQ o λH F C z=>
  h c ⟨H,k,(aW _ b F),u.slots z,.inr ⟨f,.inr C⟩⟩
 rcases q with⟨-,T,S,f,v,K,w,y,R⟩|⟨f,t|t⟩
 ·unfold jL;refine I m ?_;exact aB (jz v w y (cM (aa J) (wpAny_entryW b r m v p k w (pX.mp y).1 R λc l=>j c f (K▸l))))
 ·exact wpAny_noteFrame_onW b r m t p k λc l=>j c f l
 ·exact W1 m t (h s.heap ⟨p,k,(aW _ b r),u,.inr ⟨f,.inr t⟩⟩)
section
variable{z:Z}{Lc O:bS}{H B N:Mi.H}
abbrev zu(z:Z)(W:Bw->aA->Prop):lH->aA->Prop:=λr a=>match r with| .ok f=>W f a| .error e=>pi z.G.M z.A z.aJ z.Ex e a
abbrev uk(z:Z):ay->aA->Prop:=λe c=>cP z.cl z.G.M z.A (jL e z.aJ>>=λb=>gK e) (λb a=>pi z.G.M z.A z.aJ z.Ex e a) (λe a=>pi z.G.M z.A z.aJ z.Ex e a) c
theorem HP(F:z.wa){e:ay}{s:aA}(x:z.Ex e s):uk z e s:=by
 refine cs F.fr λf c=>wW x λ_ _ _ d i=>?_;rename_i a h tk;refine I d (ou s i λg=>?_);refine cv g λx X=>?_;exact aG (.of (EA (s:=up z.b h tk) c F.ye x λl j=> .of (wpAny_theTreesLotGoes (E7 (s:=up z.b l tk) c F.ye j λk d=>(uR a k tk J J d.UE X)))))
theorem Z.wp.gp{α:Type}(F:z.wa){t:nE α}{W:α->aA->Prop}{s:aA}(h:z.wp t W s):cP z.cl z.G.M z.A t W (uk z) s:=fx h (λa a x=>x) λa a x=>HP F x
theorem Ea(F:z.wa){b:be}{v:E}{d:ag gZ}{w:ag S}{o:gz}(x:v9 z b v)(y:pe z d w):sE z (.While b d [] o) (.wh v w):=λLc H p Q W h k=>by
 refine I (arm_exec_While ..) (.cC (nW (cY h λa n i e=>?_)));suffices g:∀n Lc H (q:Pt z Lc H),Le p q->a n Lc H->fG z.cl z.G.M z.A (.whileLoop b d [] z.aJ) (zu z W) q.s from g n Lc H p (Le.refl p) i;intro n;induction n using Nat.strongRecOn with
 |ind n U=>
  intro Lc H q C i;refine da (λj j j=>rfl) (?_ :cP z.cl z.G.M z.A ((whileTurn b d [] z.aJ).onRaise (λx=>jL x z.aJ>>=λj=>gK x)) _ _ _);refine fa ?_;refine aG (Z.wp.gp F (x _ _ q _ _ (e n Lc H i) λj u c L K R h=>?_));revert h;refine sb R λh=>?_;induction L with
  |false=>exact aG (aX (aX (k _ _ u _ _ (C.trans K) .next h)))
  |true=>
   refine aG (Z.wp.gp F (y _ _ u _ _ h λY B l X f T r h=>?_));have t:=C.trans (K.trans T);induction r with
   |next=>exact aM h λm V i=>aX ⟨rfl,U m V _ _ l t i⟩
   |brk=>exact aX (k _ _ l _ _ t .next h)
   |ret r=>exact aX (k _ _ l _ _ t (.ret r) h)
theorem AG(F:z.wa){j:be}{t:ay}{c:ag gZ}{mb:ag S}(y:pe z c mb){x:V}{m:ag V}{st:Nat->V->bS->bS}{Q:PS}{W:Bw->aA->Prop}(b:Pt z O N)(IT:∀Lc H,Nat->Pt z Lc H->Prop)
  (af:∀Lc H E B n (p:Pt z Lc H) (q:Pt z E B),Le p q->IT Lc H n p->IT E B n q)
  (w:∀Lc H (p:Pt z Lc H),Le b p->IT Lc H (Y7 m) p->Look z.C.K H x (.list m)->∀U,(∀q:Pt z Lc H,Le b q->U ax q.s)->cu z.G.M z.A (pyNext t) U (λa a=>bA) p.s)
  (u:∀Lc H n v (p:Pt z Lc H),Le b p->IT Lc H n p->Look z.C.K H x (.list m)->m[n]? =ae v->∀U,(∀q:Pt z (st n v Lc) H,Le b q->IT _ _ (n+1) q->U () q.s)->
   cu z.G.M z.A (pyNext t) (λr o=>∃y,r=ae y/\cP z.cl z.G.M z.A (mF j t y) (λa s=>cP z.cl z.G.M z.A (ur j z.aJ y) U (uk z) s) (uk z) o) (λa a=>bA) p.s)
  (k:∀L' B (q:Pt z L' B) fl f,Le b q->tZ z.G.T q.ρ fl f->Q fl L' B->W f q.s):
  ∀(r d:ag V) Lc H (p:Pt z Lc H),m=d++r->Le b p->IT Lc H (Y7 d) p->Ah z.C.K x m (λn v L=>cD z.C mb (st n v L)) Q r (Y7 d) Lc H->fG z.cl z.G.M z.A (.forLoop j t c [] z.aJ) (zu z W) p.s:=by
 intro r;induction r with
 |nil=>
  intro d Lc H p e l i h;refine da (λa a a=>rfl) (?_ :cP z.cl z.G.M z.A ((forTurn j t c [] z.aJ).onRaise (λx=>jL x z.aJ>>=λa=>gK x)) _ _ _);refine fa ?_;rw[bz] at e;refine aG (fR (aG (fa (.of (iX (w _ _ p l (e▸i) h.1 _ λq X=>?_) (λa a x=>x) λa a x=>x.elim)))));exact aX ⟨rfl,oV (k _ _ q _ _ X .next h.2)⟩
 |cons v r ih=>
  intro d Lc H p e l i h;refine da (λa a a=>rfl) (?_ :cP z.cl z.G.M z.A ((forTurn j t c [] z.aJ).onRaise (λx=>jL x z.aJ>>=λa=>gK x)) _ _ _);refine fa ?_;refine aG (fR (aG (fa (.of (iX (u _ _ _ v p l i h.1 (show m[Y7 d]? =ae v by refine I e (I (cF (Nat.le_refl _)) ?_);exact I (Nat.sub_self ..) J) (λa o=>cP z.cl z.G.M z.A (nN c z.aJ>>=λf=>match f with
   | .next| .cont=>again (.forLoop j t c [] z.aJ)
   | .brk=>pure (.done .next)
   | .ret v=>pure (.done (.ret v))) (λaj o=>match aj with| .done f=>zu z W (.ok f) o| .again c'=>c'.quiet=am/\fG z.cl z.G.M z.A c' (zu z W) o) (uk z) o) λq X iq=>?_) (λr o hr=>?_) λa a x=>x.elim)))))
  rotate_left
  ·refine iu r hr λy g=>?_;exact aG (fx g (λa a g=>aG g) λa a e=>e)
  ·refine aG (Z.wp.gp F (y _ _ q _ _ h.2 λL' B R fl f l3 r h=>?_));have Y:=X.trans l3;induction r with
   |next=>exact aX ⟨rfl,ih (d++[v]) _ _ R (I (a7 ..) e) Y (af _ _ _ _ _ q R l3 (I au iq)) (I au h)⟩
   |brk=>exact aX (k _ _ R _ _ Y .next h)
   |ret r=>exact aX (k _ _ R _ _ Y (.ret r) h)
end
end Mi
namespace Mi
open PySem PySem.W PySem.Calls PyProof.Rows
section
variable{z:Z}{Lc O P:bS}{H B N H3:Mi.H}
def zv(Y:bk->Prop)(a:P0 z N)(p:P0 z H):Prop:=∀b,Y b->¬own p.ρ b/\(a.h.get? b=ax/\b≠z.L)/\∃o,p.h.get? b=ae o
theorem zv.fm{Y:bk->Prop}{a:P0 z N}{p:Pt z Lc H}{q:Pt z P H3}(l:Le p q)(i:zv Y a p.toP0):zv Y a q.toP0/\∀b o,Y b->p.h.get? b=ae o->q.h.get? b=ae o:=by
 have k:∀b o,Y b->p.h.get? b=ae o->q.h.get? b=ae o:=λb o y e=>l.nq b o e (i b y).1 (i b y).2.1.2;exact⟨λb y=>i7 (i b y) λn d c=>cs c λo e=>(bX (λw=>(l.fresh b w).elim n λw=>gG e w) d ⟨o,k b o y e⟩),k⟩
theorem IL{Y:bk->Prop}{c:P0 z N}{p:P0 z H}(i:∀b,Y b->c.h.get? b=ax){s:cW}(k:∀b o,¬Y b->p.h.get? b=ae o->s.get? b=ae o):zq z.G z.A iN p.ρ s:=by
 have q:∀{b o},c.h.get? b=ae o->¬Y b:=λe y=>gG e (i _ y);obtain⟨⟨K,r,M,v⟩,⟨o,w,E,x⟩,g,Q,u⟩:=p.jO;obtain⟨⟨j,d,a,_⟩,⟨m,f,_⟩,_⟩:=c.jO;rw[r] at d;revert a;exact sb (si d) λa=>⟨(bQ K r (lK M (λl C L F=>cs (r8 a l C L F) λt e=>q e) λb o e n=>k b o n e) v),(bQ o (k _ _ (q f) w) E x),g,λt e=>e.elim,u⟩
theorem zx.on{Y:bk->Prop}{G:Gl}{a:ag bR}{L:bk}{ρ:fD}{Lc:bS}{h c:cW}(x:zx G a L ρ Lc h)(n:¬Y L)(k:∀b o,¬Y b->h.get? b=ae o->c.get? b=ae o):zx G a L ρ Lc c:=
 by obtain⟨⟨m,⟨o,l,p,j,d⟩,g⟩,e,i,f⟩:=x;exact⟨(aW m (oK o l p (k _ o n j) d) g),e,i,f⟩
noncomputable def Pt.iter{Y:bk->Prop}{p₀:P0 z N}(p:Pt z Lc H)(i:∀b,Y b->¬own p.ρ b/\p₀.h.get? b=ax/\b≠z.L){a:cW}(tk:D)(k:∀b o,¬Y b->p.h.get? b=ae o->a.get? b=ae o):Pt z Lc H:=
 ⟨⟨a,tk,p.ρ,p.gB.F5 (λb o w e=>k b o (λy=>(i b y).1 w) e) (λb o e=>k b o (λy=>gG (p₀.gB.keep b o e) (i b y).2.1) (p.gB.keep b o e)),IL (λb y=>(i b y).2.1) k⟩,p.fst.on (λy=>(i _ y).2.2 J) k⟩
theorem zv.p{Y:bk->Prop}{d:P0 z N}{p:P0 z H}(i:zv Y d p):∀b,Y b->¬own p.ρ b/\d.h.get? b=ax/\b≠z.L:=λb y=>i7 (i b y) λa c e=>⟨a,c⟩
theorem uH{Y X:bk->Prop}{p₀:P0 z N}{a ρ:fD}{h c:cW}(l:Fm X p₀.h a h ρ)(i:∀b,Y b->p₀.h.get? b=ax)(k:∀b o,¬Y b->h.get? b=ae o->c.get? b=ae o):Fm X p₀.h a c ρ:=
 ⟨λb o e n x=>k b o (λy=>gG e (i b y)) (l.nq b o e n x),l.sub,l.fresh⟩
theorem Pt.pN{Y:bk->Prop}{a:Pt z O N}{p:Pt z Lc H}(l:Le a p)(i:zv Y a.toP0 p.toP0){c:cW}(tk:D)(k:∀b o,¬Y b->p.h.get? b=ae o->c.get? b=ae o):Le a (Pt.iter p i.p tk k):=
 uH l (λb y=>(i b y).2.1.1) k
theorem Pt.O4(q:Pt z Lc H){b:bk}(n:q.h.get? b=ax):q.h.get? b=ax/\b≠z.L:=⟨n,λe=>cs q.fst.alive λa w=>gG w (e▸n)⟩
noncomputable def oj:be->aD
 | .Set .. =>ai
 |_=>am
theorem ny{e:be}(h:oj e=am)(a:rP)(x:ay):foldedSetIterable e a x=pure x:=by
 cases e<;>first|rfl|exact ft h
theorem KP(F:z.wa){xn:bR}{px:gz}{j:D}{c:be}{mi:E}{m:ag gZ}{mb:ag S}{af:gz}(hx:z.aU[j]? =ae xn)(hs:oj c=am)(x:gh z c mi)(y:pe z m mb):
  sE z (.For (.Name xn px) c m [] af) (.fo j mi mb):=λLc H p Q W h k=>by
 refine I (W4 ..) (.cC (.bind (x _ _ p _ _ h λB q v yv l r V=>cs V λX h=>?_)));rewrite[ny hs];refine cY (q.iR F.ko r (show Look z.C.K B v (.list X) by cases X<;>exact h.1)) λa d aj w=>?_;revert r;refine I aj λr=>aM (yE w) λvs g t=> .bind (.pure (.cC (.bind (.fE (.of (wpAny_pyIter_list g ?_))))));have kp:∀b o,q.h.get? b=ae o->(q.h.push {cls:= .type "list_iterator",data:= .fields #[.ref a,.int 0 0]}).get? b=ae o:=λb o e=>aN _ e;have hI:=bJ q.h (o:={cls:= .type "list_iterator",data:= .fields #[.ref a,.int 0 0]}) J;have nI:=cz (h:=q.h) (aE _);refine nW (AG F y q (st:=λt v L=>cx L j v) (IT:=λLc H n p=>zv (·=q.h.objs.size) q.toP0 p.toP0/\p.h.IsListIter q.h.objs.size a n/\p.vr v (.ref a)) (λLc H GE B n p p' l ⟨i,it,s⟩=>?fm) (λLc H p l ⟨i,it,s⟩ hl U k=>?en)
  (λLc H n u p l ⟨i,it,s⟩ hl hu U k=>?it) (λt t Y fl f A r h=>k _ _ Y fl f (l.trans A) r h) X [] Lc B (q.at (q.toP0.mZ q.tk kp) (q.toP0.jx _ kp)) J (q.toP0.jx q.tk kp).le (bX (λb e=>⟨λw=>?dd,e▸q.O4 nI,_,e▸hI⟩) (bQ _ hI J J) r) h);case fm=>
  refine cv (i.fm l) λi1 i2=>aM it λo R e2=>?_;exact bX i1 (aW o (i2 _ o J R) e2) (l.v s)
 case en=>
  refine cY (p.iR F.ko s hl) λa' d' e w=>?_;cases e;exact fy w λvs g M hz=>wpAny_pyNext_list_end F.hd it g (tO (lS hz)) λh' e=>k _ (Pt.pN l i p.tk λb o nb=>e b o nb)
 case it=>
  refine cY (p.iR F.ko s hl) λa' d' e w=>?_;cases e;refine fy w λvs g M hz=>aM (M.get hu) λy' hy Fr=>?_;rw[cU] at hy;refine WZ it g hy λh' G sb=>(aW y' J (aX ?_));have kk:∀b o,¬b=q.h.objs.size->p.h.get? b=ae o->h'.get? b=ae o:=λb o nb e=>(sb.2 b nb).trans e;have i1:zv (·=q.h.objs.size) q.toP0 (Pt.iter p i.p p.tk kk).toP0:=λb e=>by
   refine i7 (i b e) λn dd t=>kh G λo R t e3=>?_;exact bX n dd ⟨o,e▸R⟩
  refine I (xx ..) (Z.wp.gp F (.cC (nJ F.toOk (Pt.iter p i.p p.tk kk) hx Fr λY A=>k Y ((Pt.pN l i p.tk kk).trans A) (cv (i1.fm A) λi2 i3=>aM G λo R e2=>?_))));exact bX i2 (aW o (i3 _ o J R) e2) (A.v s)
 case dd=>
  revert w;exact I e λw=>cs ((q.gB.new _ w).2) λo e=>gG e nI
end
end Mi
end
section
namespace Mi
open PySem PySem.W PySem.Calls PyProof.Rows
section
variable{z:Z}{Lc B t:bS}{H m O N:Mi.H}
theorem tW{a:rP}{e d:bR}{i h f:gz}{l:_}{y:ay}:ur (.Tuple [.Name e i,.Name d h] l f) a y=(iH f>>=λb=>jE [y] (unpackItems y 2 ax)>>=λk=>CZ [λy=>iH i>>=λb=>nP a e y,λy=>iH h>>=λb=>nP a d y] k):=rfl
structure DH(j:P0 z O)(v:V)(a g c:bk)(n:D)(p:Pt z Lc H):Prop where
 i:zv (λb=>b=g\/b=c) j p.toP0
 en:∃old,IsEnum p.h g c n old
 it:p.h.IsListIter c a n
 v:p.vr v (.ref a)
section
variable{j:Pt z t N}{v:V}{a g c:bk}{n:D}{p:Pt z Lc H}
theorem DH.fm{d:Pt z B m}(e:DH j.toP0 v a g c n p)(l:Le p d):DH j.toP0 v a g c n d:=
 have z:=e.i.fm l
 ⟨z.1,cs e.en λb f=>⟨b,z.2 _ _ (.inl J) f⟩,aM e.it λo k h=>(aW o (z.2 _ o (.inr J) k) h),l.v e.v⟩
theorem DH.end(F:z.wa){f:ag V}(y:Look z.C.K H v (.list f))(e:DH j.toP0 v a g c (Y7 f) p)(l:Le j p){U:av ay->aA->Prop}(k:∀q:Pt z Lc H,Le j q->U ax q.s):cu z.G.M z.A (pyNext (.ref g)) U (λh h=>bA) p.s:=by
 refine cY (p.iR F.ko e.v y) λT S L w=>?_;cases L;exact fy w λQ d x u=>cs e.en λn E=>wpAny_pyNext_enum_end F.hd E e.it d (tO (lS u)) λR P=>k _ (Pt.pN l e.i p.tk λb o r=>P b o λz=>r (.inr z))
theorem DH.gp(F:z.wa){S R:bR}{X W pt:gz}{f:_}{i1 i2:D}(Fr:z.aU[i1]? =ae S)(aj:z.aU[i2]? =ae R){xs:ag V}{u:V}(hl:Look z.C.K H v (.list xs))(hu:xs[n]? =ae u)(ne:g≠c)(e:DH j.toP0 v a g c n p)(l:Le j p){U:xj->aA->Prop}(k:∀q:Pt z (cx (cx Lc i1 (.int n)) i2 u) H,Le j q->DH j.toP0 v a g c (n+1) q->U () q.s):
  cu z.G.M z.A (pyNext (.ref g)) (λr s'=>∃y,r=ae y/\cP z.cl z.G.M z.A (mF (.Tuple [.Name S X,.Name R W] f pt) (.ref g) y) (λd s=>cP z.cl z.G.M z.A (ur (.Tuple [.Name S X,.Name R W] f pt) z.aJ y) U (uk z) s) (uk z) s') (λd d=>bA) p.s:=by
 refine cps λd f=>cY (p.iR F.ko e.v hl) λa' d' ea w=>?_;cases ea;refine fy w λvs Id GE hz=>aM (GE.get hu) λy' hy GT=>?_;rw[cU] at hy;obtain⟨i,⟨LE,en⟩,it,hv⟩:=e;refine f (wpAny_pyNext_enum_item en it Id hy ne λh1 KK af t1 z1 k1=>(aW _ rfl (.of (wpAny_letOwnedTupleGo_enum KK λh2 IO E=>I tW ?_))));have le:=hB en;have t2:h2.IsTuple p.h.objs.size #[.int n p.tk,y']:=⟨_,(E.2 _ (fM le)).trans t1,rfl,_,rfl⟩;refine aG (fR (aG (fc (.of (V2 (items:= #[.int n p.tk,y']) F.hd t2 λT e3=>?_)))));have k3:∀b o,b<p.h.objs.size->h2.get? b=ae o->T.get? b=ae o:=λb o hb x=>e3 b o (cr (cQ hb (fh (hB t2.choose_spec.1)))) x;have f:∀b o,¬(b=g\/b=c)->p.h.get? b=ae o->T.get? b=ae o:=λb o Y e=>k3 b o (hB e) ((E.2 b λz=>Y (.inl z)).trans (k1 b o (λz=>Y (.inl z)) (λz=>Y (.inr z)) e));have P:=k3 _ _ le IO;have L:=aM af λo Q e2=>(aW o (k3 _ o (aM it λd Q d=>hB Q) ((E.2 _ (pr ne)).trans Q)) e2);exact Z.wp.gp F (vD F.toOk (.cons (aW S Fr (.inr ⟨X,λd=>rfl⟩)) (.cons (aW R aj (.inr ⟨W,λd=>rfl⟩)) .nil)) (Pt.iter p i.p (p.tk+1) f) (vs:=[.int n,u]) J (.cons ⟨_,rfl⟩ (.cons GT .nil)) λq2 l2=>k q2 ((Pt.pN l i (p.tk+1) f).trans l2) (((⟨λb e=>(bX ((i b e).1) ((i b e).2.1) (e.elim (λe=>⟨_,(aL T.get? e).trans P⟩) λe=>aM L λo Q d=>⟨o,(aL T.get? e).trans Q⟩)),⟨_,P⟩,L,hv⟩):DH j.toP0 v a g c (n+1) (Pt.iter p i.p (p.tk+1) f)).fm l2))
end
theorem KQ(F:z.wa){x1 x2:bR}{p1 p2 pt np A:gz}{kk:_}{Z Y:D}{id:bR}{i:be}{mi:E}{P:ag gZ}{mb:ag S}{R:gz}(Id:z.aU[Z]? =ae x1)(GT:z.aU[Y]? =ae x2)
  (hg:z.gl id=ae (.ty 7)) (hd:(id==("__debug__":bR))=ai) (hs:eJ i=am) (x:gh z i mi) (y:pe z P mb):
  sE z (.For (.Tuple [.Name x1 p1,.Name x2 p2] kk pt) (.Call (.Name id np) [i] [] A) P [] R) (.QP Z Y mi mb):=λLc H p Q W h k=>by
 refine I (W4 ..) (.cC (?_ :z.wp ((zN (.Name id np) z.aJ>>=λf=>vM A f [] (P7 A (rJ [i] z.aJ)) [])>>=_) W p.s));refine I (eX (I ju (I hs J))) ?_;have M:=AI.es (z:=z) (.cons x .nil);refine .bind (.bind (pK F.toOk hg hd (pos:=np) _ _ p (λu h=>u= .ty 7/\oh z.C [mi] Lc (λvs h=>∃M,Ah z.C.K (vs.headD .none) M (λk v L=>cD z.C mb (cx (cx L Z (.int k)) Y v)) Q M 0 Lc h) h) _ ⟨rfl,h⟩ λV q u f l r hh=>cv hh λ_ _=>?_));rename_i hu hh;revert r;refine I hu λr=>I (r) (qZ F.toOk M (uG F.toOk (v:= .ty 7) (ρ:=q.ρ) J trivial) q hh λm q vs ys l2 X af=>cs af λM h=>?_);refine cs (NR.mp X.2) λv GE=>?_;revert X h;refine I GE λX h=>iu ys X.1.dY λyv r=>?_;have l:=l.trans l2;refine cY (q.iR F.ko r (show Look z.C.K m v (.list M) by cases M<;>exact h.1)) λa d Fr aj=>?_;revert r;refine I Fr λr=>cY aj λvs n hg V=>?_;refine(?_ :z.wp (cX (.type (z.G.T.Aj 7)) [.ref a]) _ q.s);refine I F.nm.t7 (.of (call_enumerate_1 hg λh2 en li zs kp=>?_));rewrite[ny J];refine .bind (.pure (.cC (.bind (.fE (.of (wpAny_pyIter_enum en ?_))))));have n0:=cz (h:=q.h) (aE _);have n1:=cz (h:=q.h) (dR q.h.objs.size);refine nW (AG F y q (st:=λk v L=>cx (cx L Z (.int k)) Y v) (IT:=λLc H n p=>DH q.toP0 v a (q.h.objs.size+1) q.h.objs.size n p) (λLc H IO m n p p' l e=>e.fm l)
  (λLc H p l e hl U k=>e.end F hl l λq' l'=>k q' l') (λLc H n u p l e hl hu U k=>e.gp F Id GT hl hu (Xb _) l k) (λV V q2 fl f l2 r h=>k _ _ q2 fl f (l.trans l2) r h) M [] Lc m (q.at (q.toP0.mZ q.tk kp) (q.toP0.jx _ kp)) J (q.toP0.jx q.tk kp).le
  ⟨λb e=>?dd,⟨_,en⟩,li,r⟩ h);case dd=>
  have no:∀{b:bk},q.h.get? b=ax->¬own q.ρ b:=λn w=>cs ((q.gB.new _ w).2) λo e=>gG e n;rcases e with rfl|rfl
  ·exact bX (no n1) (q.O4 n1) ⟨_,en⟩
  ·exact bX (no n0) (q.O4 n0) (aM li λo e1 V=>⟨o,e1⟩)
end
section
variable{z:Z}{Lc B O:bS}{H c u j:Mi.H}
def nC(z:Z)(a b:be)(f:V->P1->Mi.H->Prop):Prop:=∀Lc H (p:Pt z Lc H) v y (Q:P1) (W:ay->aA->Prop),p.vr v y->f v Q H->
 (∀d c (q:Pt z d c) v y,Le p q->q.vr v y->Q v c->W y q.s)->z.wp (ur a z.aJ y) (λe s=>z.wp (zN b z.aJ) W s) p.s
noncomputable def Pt.forget(p:Pt z Lc H):Pt z (cE z.aU.length ax) H:=⟨p.toP0,by obtain⟨⟨m,e,_⟩,d,b,a⟩:=p.fst;exact⟨(bQ m e (I mL J) (λi y w g f=>by have:=bI f;rw[yP] at this;cases this.2)),d,b,a⟩⟩
theorem nC.mk{a b:be}{f:T}{g:E}(t:zK z a f)(e:gh z b g):nC z a b (λv Q=>NY z.C v f (cE z.aU.length ax) λo=>(wE z.C g).1 o Q):=
 λLc H p v y Q W n h k=>t _ _ p.forget v y _ _ h n λd d q l h=>e _ _ q _ _ h λd i v y m r h=>k _ _ i v y (l.trans m) r h
theorem Z.wp.any(d:z.cl=ai)(e:¬z.C.X){α:Type}{t:nE α}{W:α->aA->Prop}{E:ay->aA->Prop}{s:aA}(h:z.wp t W s):cu z.G.M z.A t W E s:=by
 unfold Z.wp at h;rw[d] at h;exact iX h.any (λa a x=>x) λa a b=>DU b λa a a a a a x=>(e x).elim
theorem AU(a:be)(b v:ay):mF a b v=pure ()\/mF a b v=mF (.List [] ⟨0,0,0,0⟩) b v:=by
 cases a<;>first|exact .inl J|exact .inr J
theorem xp{A:cG}{E:ay->aA->Prop}{s:aA}{f:be}{a l:bk}{i:D}{v:ay}{U:xj->aA->Prop}(b:s.heap.IsListIter a l i)(d:U () s):cu z.G.M A (mF f (.ref a) v) U E s:=by
 refine kh b λo k h g=>?_;rcases AU f (.ref a) v with e|e<;>refine I e ?_
 ·exact aP d
 ·cases v<;>try exact aP d
  exact aB (mI k (I h (I g (ite_no (λz=>nomatch ((aq _ _).mp z).1) (aP d)))))
theorem Fm.le{d:cW}{a:fD}{p:Pt z Lc H}{q:Pt z B u}(l:Fm (·=z.L) d a p.h p.ρ)(f:Le p q):Fm (·=z.L) d a q.h q.ρ:=Fm.trans l (λb o=>(p.gB.new b (yB l.sub o)).2) f λb e=>e▸p.fst.alive
theorem E4(F:z.Ok)(Ty:z.cl=ai)(hX:¬z.C.X){Y Z W:be}{sc:jY}{af:gz}{f:V->P1->Mi.H->Prop}(T:nC z Y Z f){x:V}{xs:ag V}{N:D}{Q:P1}{R:lH->aA->Prop}{ρ₀:fD}{a k t dD:bk}(P:P0 z u)
  (Zb:∀L' c (q:Pt z L' c),Fm (·=z.L) P.h ρ₀ q.h q.ρ->q.ρ[N]? =ae (t,dD)->Q (.ref N) c->R (.ok .next) q.s):
  ∀(r S:ag V) Lc H (p:Pt z Lc H),xs=S++r->Fm (·=z.L) P.h ρ₀ p.h p.ρ->zv (·=k) P p.toP0->p.h.IsListIter k a S.length->p.vr x (.ref a)->p.ρ[N]? =ae (t,dD)->DX z.C.K x xs f N Q r H->
   tR z.G.M z.A (.compLoop (.ListComp Z [⟨Y,W,[],0⟩] sc af) 0 (.ref k) (.ref t) z.aJ) R p.s:=by
 intro r;induction r with
 |nil=>
  intro S Lc H p e l i it hv hd h;refine xw (?_ :cu _ z.A ((compTurn (.ListComp Z [⟨Y,W,[],0⟩] sc af) 0 (.ref k) (.ref t) z.aJ).onRaise (λx=>do jL x z.aJ;gK x)) _ _ _);refine wpAny_noted (I (compTurn_list1 ..) (aB (fA (aB (cY (p.iR F.ko hv h.1) λa' d' e' w=>?_)))));cases e';refine fy w λvs GT KK hz=>?_;rw[bz] at e;exact wpAny_pyNext_list_end F.hd it GT (tO (lS (e▸hz))) λh' e=>aP (Zb _ _ (Pt.iter p i.p p.tk λb o nb=>e b o nb) (uH l (λb y=>(i b y).2.1.1) λb o nb=>e b o nb) hd h.2)
 |cons v r ih=>
  intro S Lc H p e l i it hv hd h;refine xw (?_ :cu _ z.A ((compTurn (.ListComp Z [⟨Y,W,[],0⟩] sc af) 0 (.ref k) (.ref t) z.aJ).onRaise (λx=>do jL x z.aJ;gK x)) _ _ _);refine wpAny_noted (I (compTurn_list1 ..) (aB (fA (aB (cY (p.iR F.ko hv h.1) λa' d' e' w=>?_)))));cases e';refine fy w λvs GT KK hz=>aM (KK.get (i:=S.length) (a:=v) (by refine I e (I (cF (aE _)) ?_);exact I (je ..) J)) λy hy Y9=>?_;rw[cU] at hy;refine WZ it GT hy λh1 GE XL=>?_;have k1:∀b o,¬b=k->p.h.get? b=ae o->h1.get? b=ae o:=λb o nb e=>(XL.2 b nb).trans e;let q:=Pt.iter p i.p p.tk k1;have iq:zv (·=k) P q.toP0:=λb e=>i7 (i b e) λn d E=>aM GE λo e1 E=>(bX n d ⟨o,e▸e1⟩);suffices g:∀{L' j} (U:Pt z L' j) v3 y3,Le q U->U.vr v3 y3->(∃ys,j[N]? =ae (.list ys)/\ys.length<=dW/\DX z.C.K x xs f N Q r (j.set N (.list (ys++[v3]))))->
    cu z.G.M z.A (cX (.builtin "list.append") [.ref t,y3]) (λE s=>tR z.G.M z.A (.compLoop (.ListComp Z [⟨Y,W,[],0⟩] sc af) 0 (.ref k) (.ref t) z.aJ) R s) (λE E=>bA) U.s by
   refine aB (xp (s:=q.s) GE (aB (iX ((T _ _ q v y _ _ Y9 h.2 λE E U v3 y3 l3 r3 h3=>g U v3 y3 l3 r3 h3).any Ty hX) (λE E g=>aB (aB (iX (g.any Ty hX) (λE E g=>aB (iX g (λE E g=>aP ?_) λE E e=>e.elim)) λE E e=>e))) λE E e=>e)));exact aP ⟨rfl,g⟩
  intro L' j U v3 y3 l3 r3 h3;refine kh h3 λ_ _ _ _=>?_;rename_i ys Y8 LE h3;have aj:=l3.sub _ _ hd;refine cY (U.gB.obj N _ t dD Y8 aj) λws m Za IO=>?_;have Id:=IO.length;rw[bY] at Id;refine cv (iq.fm l3) λi3 k3=>V4 (s:=U.s) ⟨m,Za⟩ (λh4 ⟨m4,ST⟩ Fr=>?_) (by refine I fp ?_;have:=LE;exact dw 0x35618618618240b9889e809070040 J Id this);have w4:OR z.G.T U.ρ h4 t dD (.list (ys++[v3])):=(dO (ws.push y3) m4 ST (I Ab (IO.append (.cons r3 .nil))));let q5:=U.toP0.uY U.tk aj (.inl J) Fr w4 ⟨_,ST⟩;have f4:L0 U.toP0 q5:=Fm.wZ (h':=h4) _ aj (.inl J) Fr;let q4:=U.at q5 f4;have l4:=l3.trans (L0.le f4);refine cv (iq.fm l4) λi4 E=>ih (S++[v]) _ _ q4 (I (a7 ..) e) (Fm.le ((uH l (λb y=>(i b y).2.1.1) k1):Fm (·=z.L) P.h ρ₀ q.h q.ρ) l4) i4 ?_ (l4.v hv) (l4.sub _ _ hd) h3;exact I au (((aM GE λo e1 e2=>(aW o (k3 _ o J e1) e2)):U.h.IsListIter k a (S.length+1)).extBut Fr.extBut (pr (λe=>(i3 k J).1 (oK N t dD aj (.inl e.symm)))))
end
noncomputable def Z.comp(z:Z)(d:jY)(km:ag (bR×bk))(c:bk)(a:ag bR)(gl:bR->av V)(C:Cy):Z:=⟨z.G,ai,z.A,z.K,C,a,gl,compEnvC d km c z.aJ,c,z.b⟩
noncomputable def rS(K:jR)(m:wV)(f:V->P1->H->Prop):wV:=λL Q=>m L λx h=>∃a,DX K x a f h.length Q a (h++[.list []])
section
variable{z:Z}{Lc:bS}{H:Mi.H}
theorem ym(F:z.Ok){ST Fr af:be}{B:jY}{Ty:gz}{km:ag (bR×bk)}{f:V->P1->Mi.H->Prop}{j:ag bR}{gl:bR->av V}{C:Cy}(hK:C.K=z.C.K)(hX:¬C.X)
  (Id:B.kind= .function) (IO:∀x∈B.names,x.2≠.cell)
  (GT:∀U,U≠z.L->(z.comp B km U j gl C).Ok/\nC (z.comp B km U j gl C) Fr ST f)
  {use:av (ay->nE xj)} {Qv:ay->aA->Prop} {E:ay->aA->Prop} {x:V} {v:ay} {Q:P1} (p:Pt z Lc H) (hv:p.vr x v) (h:∃W,DX z.C.K x W f H.length Q W (H++[.list []]))
  (Zi:∀c U H' (q:Pt z Lc H') m',Le p q->q.vr (.ref H.length) (.ref c)->Q (.ref H.length) H'->q.h.Ns U m'->(¬own q.ρ U/\p.h.get? U=ax/\U≠z.L)->compPost z.G.M z.A E use Qv (.ref c) U (.ok .next) q.s):
  cu z.G.M z.A (pyIter v) (λit s₂=>cu z.G.M z.A (newList []) (λZa s₃=>
   cu z.G.M z.A (newFunctionEnv B z.aJ.globals km [] z.aJ.qual ax .none (ae z.aJ)) (λaj s₄=>
    tR z.G.M z.A (.compStart (.ListComp ST [⟨Fr,af,[],0⟩] B Ty) 0 it Za {aj with scope:=relabel B z.aJ}) (compPost z.G.M z.A E use Qv Za aj.locals) s₄) E s₃) E s₂) E p.s:=by
 refine cs h λ_ _=>?_;clear h;rename_i W h
 have hl:Look z.C.K H x (.list W):=by
  have hl:Look z.C.K (H++[.list []]) x (.list W):=by cases W<;>exact h.1
  induction x with
  |ref n=>
   refine cY hv λa d R hd=>?_;clear hv
   have hl:(H++[.list []])[n]? =ae (O.list W):=hl
   rwa [bF (show n<H.length by exact I (aQ p.gB.len) ((aY.mp hd).1))] at hl
  |aV=>exact hl
  |_=>exact hl.elim
 refine cY (p.iR F.ko hv hl) λa d Zd w=>?_;revert hv;refine I Zd λhv=>aM (yE w) λvs Zh R=>wpAny_pyIter_list Zh (tQ ?_ (by simp[sizeOk]))
 refine wpAny_newFunctionEnv IO (by intro z hz;cases hz) (λh1 GE N=>?_) Id
 generalize KK:p.s.heap.push {cls:= .type "list_iterator",data:= .fields #[.ref a,.int 0 0]}=H1 at GE N⊢
 generalize S:H1.push {cls:= .type "list",dict:=ax,data:= .seq ([]:ag ay).toArray}=H2' at GE N⊢
 have z1:H1.objs.size=p.h.objs.size+1:=by refine I (aQ KK) ?_;exact gA _ _
 have u:p.h.objs.size<H1.objs.size:=z1▸dc _
 have t:H1.objs.size<H2'.objs.size:=by refine I z1 ?_;refine I (show H2'.objs.size=p.h.objs.size+2 by exact I (aQ S) (I (gA ..) (I z1 J))) ?_;exact dc _
 have XL:∀b o,p.h.get? b=ae o->h1.get? b=ae o:=λb o e=>
  N.extBut b o (cr (jU (hB e) (jU u t))) (aN _ (S▸aN _ (KK▸aN _ e)))
 have P:h1.IsListIter p.h.objs.size a 0:=(bQ _ (N.extBut _ _ (cr (jU u t)) (aN _ (S▸aN _ (KK▸bJ _ rfl)))) J J)
 have LE:=N.extBut _ _ (cr t) (aN _ (S▸bJ _ rfl))
 have m:∀{b},p.h.objs.size<=b->p.h.get? b=ax:=cz
 have k:=m (fh u)
 have g:=m (fh (jU u t))
 have w0:OR z.G.T (p.ρ++[(H1.objs.size,H1.objs.size)]) h1 H1.objs.size H1.objs.size (.list []):=(dO (#[]) 0 LE .nil)
 let r:=p.toP0.new (p.s.toks+([]:ag (bR×ay)).length) XL k k ⟨_,LE⟩ ⟨_,LE⟩ w0
 have Y:∀{b},p.h.get? b=ax->b≠H1.objs.size->¬own r.ρ b:=λ{b} dd ne e=>by
  rcases qP e with e|e|e
  ·exact cs ((p.gB.new _ e).2) λo e=>Mi.gG e dd
  ·exact ne e
  ·exact ne e
 refine cv (p.O4 g) λR Y8=>cv (GT H2'.objs.size Y8) λFc T=>aM p.jO.qJ λol Zg R=>?_
 let r0:P0 (z.comp B km H2'.objs.size j gl C) H:=⟨p.h,p.tk,p.ρ,p.gB,p.jO⟩
 let r1:Pt (z.comp B km H2'.objs.size j gl C) (cE (Y7 j) ax) (H++[.list []]):=⟨⟨r.h,r.tk,r.ρ,r.gB,r.jO⟩,⟨(bQ _ GE (I mL J) (λi y w hy hw=>by
  have:=bI hw
  rw[yP] at this
  cases this.2)),(Y g (fM t)),(lG z.G.hb _).elim (λx=>x) λZb=>cs Zb λR e=>Mi.gG (p.gB.keep _ _ e) g,λe=>Mi.gG (e▸Zg) g⟩⟩
 have Z:tR z.G.M z.A (.compLoop (.ListComp ST [⟨Fr,af,[],0⟩] B Ty) 0 (.ref p.h.objs.size) (.ref H1.objs.size) (compEnvC B km H2'.objs.size z.aJ)) (compPost z.G.M z.A E use Qv (.ref H1.objs.size) H2'.objs.size) r1.s:=by
  refine E4 (z:=z.comp B km H2'.objs.size j gl C) Fc J hX T (dD:=H1.objs.size) (ρ₀:=p.ρ) r0 (λL' H' q l hd hq=>?_) W [] _ _ r1 J (Fm.rR (λR e=>e.elim) ((Fm.push _ _ (λb o R=>XL b o) k k):Fm iN p.h p.ρ r.h r.ρ)) (λb e=>(bX (e▸Y (m (aE _)) (cr u)) ⟨e▸m (aE _),e▸cr (jU u t)⟩ (aM P λo e1 R=>⟨o,e▸e1⟩))) P (hv.fH (Sub.append _ _)) ?_ (hK▸h)
  ·have l':Fm iN p.h p.ρ q.h q.ρ:=⟨λb o e n R=>l.nq b o e n λz=>Mi.gG (z▸e) g,l.sub,l.fresh⟩
   obtain⟨⟨m',Ze,_⟩,Zf,_⟩:=q.fst
   exact Zi H1.objs.size H2'.objs.size H' ⟨⟨q.h,q.tk,q.ρ,q.gB,q.jO⟩,p.fst.fm l'⟩ m' (Fm.rR (λR e=>e.elim) l') (dO _ _ rfl hd) hq Ze (bX Zf g Y8)
  ·refine(?_ :(p.ρ++[(H1.objs.size,H1.objs.size)])[H.length]? =_)
   exact I (aQ p.gB.len) (bD)
 exact codeAny_compStart_list Z (wpAny_pyIter_listiter P Z)
theorem Hj{p:Pt z Lc H}{d:bS}{f:Mi.H}{q:Pt z d f}(l:Le p q){a:bk}{c:cW}(n:¬own q.ρ a/\p.h.get? a=ax/\a≠z.L)(sb:kR a q.h c):∃r:Pt z d f,r.s=up z.b c q.tk/\Le p r/\r.ρ=q.ρ:=
 have k:∀b o,¬b=a->q.h.get? b=ae o->c.get? b=ae o:=λb o g e=>(sb.2 b g).trans e
 (bQ (Pt.iter (Y:=(·=a)) (p₀:=p.toP0) q (λb e=>e▸n) q.tk k) J (uH (Y:=(·=a)) (p₀:=p.toP0) l (λb e=>e▸n.2.1) k) J)
theorem vA(a:z.cl=ai){α:Type}{t:nE α}{W:α->aA->Prop}{s:aA}(g:z.wp t W s):cu z.G.M z.A t W z.Ex s:=by
 unfold Z.wp at g;rw[a] at g;exact g.any
theorem KV(F:z.Ok)(w:z.cl=ai){s o b:be}{e:jY}{u:gz}{km:ag (bR×bk)}{m:wV}{f:V->P1->Mi.H->Prop}{aU:ag bR}{gl:bR->av V}{C:Cy}(T:C.K=z.C.K)(S:¬C.X)
  (R:oj b=am) (i:P6 e z.aJ=pure km) (c:e.kind= .function) (j:∀x∈e.names,x.2≠.cell) (d:∀x∈e.names,x.2= .local->e.names.lookup x.1=ae .local) (A:SE z (zN b z.aJ) m)
  (g:∀t,t≠z.L->(z.comp e km t aU gl C).Ok/\nC (z.comp e km t aU gl C) o s f):SE z (zN (.ListComp s [⟨o,b,[],0⟩] e u) z.aJ) (rS z.C.K m f):=λLc H p Q W h k=>by
 refine I (arm_eval_ListComp ..) (.of (TU (use:=ax) J (ny R z.aJ) i c d (vA w (A _ _ p _ _ h λH' q v y l r h=>ym (use:=ax) F T S c j g q r h λa t H2 q2 N P G U M n=>(aW N M (λh5 B=>kh (Hj P n B) λE Z O Y=>?_))))));have:=k _ E _ (.ref a) (l.trans O) (Y▸G) U;rwa [Z] at this
theorem Ap(F:z.Ok)(R:z.cl=ai){t i b:be}{c:jY}{d u B:gz}{km:ag (bR×bk)}{m:wV}{f:V->P1->Mi.H->Prop}{aU:ag bR}{gl:bR->av V}{C:Cy}{y:bR}{j:D}(hy:z.aU[j]? =ae y)(hK:C.K=z.C.K)(hX:¬C.X)
  (hs:oj b=am) (N:P6 c z.aJ=pure km) (g:c.kind= .function) (O:∀x∈c.names,x.2≠.cell) (o:∀x∈c.names,x.2= .local->c.names.lookup x.1=ae .local)
  (aj:(c.names.any λ(n,k)=>n==y&&(k== .local||k== .cell))=ai) (P:(B.line==d.line)=am) (xi:SE z (zN b z.aJ) m)
  (E:∀U,U≠z.L->(z.comp c km U aU gl C).Ok/\nC (z.comp c km U aU gl C) i t f):
  zt z (tZ z.G.T) (GH (.Assign [.Name y B] (.ListComp t [⟨i,b,[],0⟩] c d) u) z.aJ) (λL Q=>rS z.C.K m f L λv=>Q .next (cx L j v)):=λLc H p Q W h k=>by
 have af:swapsWith (.ListComp t [⟨i,b,[],0⟩] c d) (ae (.Name y B)) u.line z.aJ=pure am:=by
  refine(?_ :(pure (z.aJ.blockKind== .function&&z.aJ.kindOf y==ae .local&&B.line==d.line&& !(c.names.any λ(n,k)=>n==y&&(k== .local||k== .cell))):nE aD)=pure am)
  refine I F.en.block ?_;refine I (F.en.var _ _ hy) ?_;refine I P ?_;refine I aj ?_;rfl
 refine .of (I (exec_Assign_Name_used _ _ _ _ af) (aB (fA (aB (?_ :cu _ z.A (do let _<-comprehension (.ListComp t [⟨i,b,[],0⟩] c d) c z.aJ _ (newList []) ai (zN b z.aJ) (ae (ur (.Name y B) z.aJ))) _ _ p.s)))));refine aB (iX (TU (use:=ae (ur (.Name y B) z.aJ)) (Q:=λY s'=>W .next s') J (ny hs z.aJ) N g o
  (vA R (xi _ _ p _ _ h λH' q v y l r h=>ym (use:=ae _) F hK hX g O E q r h λa U H2 q2 m' l2 r2 h2 ns n=>?_))) (λY s' hq=>aP (aP hq)) λY Y e=>e);refine(?_ :cu z.G.M z.A (ur (.Name _ B) z.aJ (.ref a)) _ z.Ex q2.s);refine I (xx ..) (vA R (.cC (nJ F q2 hy r2 λq3 Z=>GW ns λoC es ep S GE Fr=>?_)));refine aW m' (Mh oC es ep (Z.nq _ _ S n.1 n.2.2) GE Fr) (λh5 sb=>kh (Hj (l2.trans Z) ⟨(λw=>(Z.fresh U w).elim n.1 λw=>gG S w),n.2⟩ sb) λr5 e5 l5 e6=>?_);have:=k _ _ r5 _ .next (l.trans l5) .next h2;rwa [e5] at this
end
noncomputable abbrev Slots:=ag (bR×ay)
noncomputable def qu(x:bR×ay)(r:Slots):nE (ForInStep Slots):=if(jK x.fst r).isNone=am then pure (tT (r++[(x.fst,x.snd)])) else pure (tT r)
theorem xT{a:bR}{l:Slots}(h:∀x∈l,x.1≠a):l.lookup a=ax:=by
 induction l with
 |nil=>rfl
 |cons x l b=>
  exact I fY (I (aK.mpr (h x (.head _)).symm) (b λy c=>h y (.tail _ c)))
theorem xU{n:bR}{ns:ag bR}:∀{a:ag ay},n∈ns->Y7 a=Y7 ns->((ns.zip a).lookup n).isNone=ai:=by
 induction ns with
 |nil=>intro _ h;cases h
 |cons m ns b=>
  intro a h l;cases a with
  |nil=>cases l
  |cons v a=>
   refine I kS (I fY ?_);cases e:n==m with
   |true=>rfl
   |false=>
    cases h with
    |head=>rw[fW] at e;cases e
    |tail _ h=>exact b h (lR l)
theorem EF{t:Slots}{r:Slots}{l:Slots}:(∀x∈l,(r.lookup x.1).isNone=ai)->forIn (l++t) r qu=(forIn t r qu:nE Slots):=by
 induction l with
 |nil=>exact λx_=>rfl
 |cons x l ih=>
  intro h;exact I List.cons_append (I (kO ..) (I (show qu x r=pure (tT r) by unfold qu;exact I (h x (.head _)) J) (I (pure_bind ..) (ih λy hy=>h y (.tail _ hy)))))
theorem IA{ns:ag bR}:∀{a:ag ay} {r:Slots},ns.Nodup->(∀x∈ns,∀y∈r,y.1≠x)->forIn (ns.zip a) r qu=(pure (r++ns.zip a):nE Slots):=by
 induction ns with
 |nil=>intro a r _ _;exact I List.zip_nil_left (I List.forIn_nil (I (bz ..) J))
 |cons n ns g=>
  intro a r c h;induction a with
  |nil=>exact I yO (I List.forIn_nil (I (bz ..) J))
  |cons v a=>
   rw[jm] at c;refine I kS (I (kO ..) (I (show qu (n,v) r=pure (tT (r++[(n,v)])) by unfold qu;exact I (xT (h n (.head _))) J) (I (pure_bind ..) (?_ :forIn (ns.zip a) (r++[(n,v)]) qu=_))));rewrite[g c.2];exact I (a7 ..) J;intro x f y b;rcases dH.mp b with b|b
   ·exact h x (.tail _ f) y b
   ·exact I (ao.mp b) (λe=>c.1 ((show n=x from e)▸f))
theorem CJ{ns:ag bR}:∀{ws:ag ay} (a:Slots),ns.Nodup->Y7 ws=Y7 ns->(∀n∈ns,∀x∈a,x.1≠n)->ns.filterMap (λn=>Option.map (λx=>(n,x)) (jK n (a++ns.zip ws)))=ns.zip ws:=by
 induction ns with
 |nil=>intro ws _ _ _ _;rfl
 |cons n r i=>
  intro ws a c h f;induction ws with
  |nil=>cases h
  |cons w ws=>
   rw[jm] at c;have j:jK n (a++(n::r).zip (w::ws))=ae w:=by
    refine I List.lookup_append ?_;refine I (xT (f n (.head _))) ?_;refine I Option.none_or ?_;refine I kS ?_;refine I fY ?_;refine I (fW ..) ?_;rfl
   refine I oH (I j (I (show a++(n::r).zip (w::ws)=a++[(n,w)]++r.zip ws by exact I (a7 ..) J) (I (i (a++[(n,w)]) c.2 (lR h) λm g x b=>?_) ?_)))
   ·rcases dH.mp b with b|b
    ·exact f m (.tail _ g) x b
    ·exact I (ao.mp b) (λe=>c.1 ((show n=m from e)▸g))
   ·rfl
structure Cm(d:gQ)(ns:ag bR):Prop where
 po:d.params.posonlyargs=[]
 ko:d.params.kwonlyargs=[]
 va:d.params.vararg=ax
 kw:d.params.kwarg=ax
 ar:d.params.args.map (·.arg)=ns
 nd:ns.Nodup
theorem AH{d:gQ}{a b c:ag bR}{va vb d1 d2:ag ay}(P:Cm d (a++(b++c)))(l:(Y7 va)=a.length)(m:(Y7 vb)=b.length)(C:d1.length=b.length)(B:d2.length=c.length){s:aA}{o:av (eZ ay)}(G:(o.getD #[]).toList=d1++d2)
  (U:∀(M:lP) (A:cG) (E:ay->aA->Prop) (Q:av (eZ ay)->aA->Prop),Q o s->cu M A (seqItems? d.defaults) Q E s):
  GN s d ⟨va++vb,[]⟩ ((a++(b++c)).zip (va++(vb++d2))):=by
 obtain⟨O,S,N,R,g,u⟩:=P
 obtain⟨_,_,⟨p1,e,p3,p4,Z,Y,X⟩,_,_,_,_,df⟩:=d
 subst O S N R
 intro M A E Q q
 have g:=g
 have j:=zY.mp u
 have i:=zY.mp j.2.1
 have w:(d1++d2).length=(b++c).length:=by refine I au ?_;refine I au ?_;refine I C ?_;refine I B ?_;rfl
 have v:(a++(b++c)).length=a.length+(b++c).length:=au
 have t:(a++(b++c)).zip (va++vb)=a.zip va++b.zip vb:=by
  refine I (jk l.symm) ?_
  have:=jk (l₁:=b) (r₁:=c) (l₂:=vb) (r₂:=[]) m.symm
  rw[bz,yO,bz] at this
  refine I this ?_;rfl
 have p:a.zip va++b.zip vb=(a++b).zip (va++vb):=(jk l.symm).symm
 have r:(va++vb).length=(a++b).length:=by refine I au ?_;refine I au ?_;refine I l ?_;refine I m ?_;rfl
 have W:¬(va++vb).length>(a++(b++c)).length:=by
  refine I r ?_;refine I (aQ (a7 ..)) ?_;refine I (au (bs:=c)) ?_
  exact pU.mpr (cH _ _)
 have K:(d1++d2).length-(a++(b++c)).length=0:=by refine I w ?_;refine I v ?_;exact P3 (Nat.le_add_left _ _)
 have H:(a++(b++c)).length-(d1++d2).length=a.length:=by refine I w ?_;refine I v ?_;exact Nat.add_sub_cancel _ _
 have V:Qf (λn=>(jK n (a.zip va++b.zip vb)).isNone) a=[]:=List.filter_eq_nil_iff.mpr λn T=>I p (I (xU (ie _ T) r) aC)
 have k:forIn (((e.map (·.arg)).drop ((e.map (·.arg)).length-((o.getD #[]).toList.drop ((o.getD #[]).toList.length-(e.map (·.arg)).length)).length)).zip ((o.getD #[]).toList.drop ((o.getD #[]).toList.length-(e.map (·.arg)).length))) ((e.map (·.arg)).zip (va++vb)) qu=(pure ((a++(b++c)).zip (va++(vb++d2))):nE Slots):=by
  rw[g,G,K,GP,H,List.drop_left,t,(jk C.symm),EF λx f=>?_,IA i.2.1 λx f y F=>?_,(show(a++(b++c)).zip (va++(vb++d2))=(a.zip va++b.zip vb)++c.zip d2 by exact I (jk l.symm) (I (jk m.symm) (I (a7 ..) J)))]
  ·rw[p] at F
   rcases dH.mp (DO (a:=y.1) (b:=y.2) F).1 with h|h
   ·exact j.2.2 _ h _ (dC _ f)
   ·exact i.2.2 _ h _ f
  ·exact I p (xU (dC _ (DO (a:=x.1) (b:=x.2) f).1) r)
 refine aB (aP (aB (U _ _ _ _ (ite_no (λz=>?_) (ite_no (λz=>?_) ?_)))))
 ·exact W (g▸aa ((aq _ _).mp z).1)
 ·have z:(!(Qf (λn=>(jK n ((e.map (·.arg)).zip (va++vb))).isNone) ((e.map (·.arg)).take ((e.map (·.arg)).length-((o.getD #[]).toList.drop ((o.getD #[]).toList.length-(e.map (·.arg)).length)).length))).isEmpty)=am:=z
  rw[g,G,K,GP,H,List.take_left,t,V] at z
  exact ft z
 ·refine aB (k▸aP (aB (aP (ite_no (λz=>nomatch z) (aP ?_)))))
  have:=CJ (ws:=va++(vb++d2)) [] u (I au (I au (I au (I au (I l (I m (I B J))))))) λL L x f=>by cases f
  rw[oE] at this
  refine(?_ :Q (List.filterMap _ (([]++e.map (·.arg))++[])) s)
  exact I (bz ..) (I (oE ..) (I g (I this q)))
section
variable{d:gQ}{ns:ag bR}{vals:ag ay}{s:aA}{o:av (eZ ay)}
theorem yp(P:Cm d ns)(f:(Y7 vals)=Y7 ns)(h:(o.getD #[]).size<=Y7 ns)(g:∀(M:lP) (A:cG) (E:ay->aA->Prop) (Q:av (eZ ay)->aA->Prop),Q o s->cu M A (seqItems? d.defaults) Q E s):GN s d ⟨vals,[]⟩ (ns.zip vals):=by
 have e:=T6 h;generalize (Y7 ns)-(o.getD #[]).size=k at e;have:=AH (a:=ns.take k) (b:=ns.drop k) (c:=[]) (va:=vals.take k) (vb:=vals.drop k) (d1:=(o.getD #[]).toList) (d2:=[]) (I (bz ..) (I (cI ..) P)) (I bE (I bE (I f J))) (I bM (I bM (I f J))) ((show(ns.drop k).length=(o.getD #[]).size by exact I bM (I (aQ e) (cV _ _)))▸bY) J (bz _).symm g;rw[bz,bz,cI,cI] at this;exact this
theorem Fd(P:Cm d ns)(e:(Y7 vals)+(o.getD #[]).size=Y7 ns)(f:∀(M:lP) (A:cG) (E:ay->aA->Prop) (Q:av (eZ ay)->aA->Prop),Q o s->cu M A (seqItems? d.defaults) Q E s):GN s d ⟨vals,[]⟩ (ns.zip (vals++(o.getD #[]).toList)):=by
 have:=AH (a:=ns.take (Y7 vals)) (b:=[]) (c:=ns.drop (Y7 vals)) (va:=vals) (vb:=[]) (d1:=[]) (d2:=(o.getD #[]).toList) (by rewrite[oE,cI];exact P) (I bE (I (aQ e) ((eI (cH _ _)).symm))) J J (I bM (I (aQ e) (I bY ((cV _ _).symm)))) J f;rw[bz,oE,cI,oE] at this;exact this
end
end Mi
end
set_option backward.match.sparseCases true
section
namespace Mi
open PySem PySem.W PySem.Calls PyProof.Rows
structure rF(G:Gl)(i:D)(fi:FI)(aU:ag bR)(fd:gQ)(body:ag gZ):Prop where
 at_:∃o,G.hb.get? (G.T.qL i)=ae o/\o.data= .func fd
 code:G.hb.CodeRec fd.code fd.qualname
 body:fd.body= .stmts body
 mH:Cm fd (aU.take fi.np)
 WD:fd.defaults= .none\/∃T o vs n,fd.defaults= .ref T/\G.hb.get? T=ae o/\o.data= .seq vs n/\vs.size<=fi.np
 cell:∀x∈fd.scope.names,x.2≠.cell
 km:fd.closure=[]
 co:fd.scope.isCoroutine=ai
 zg:fd.scope.isGenerator=ai
 kind:fd.scope.kind= .function
 var:∀(j:D) x,aU[j]? =ae x->fd.scope.names.lookup x=ae .local
 nd:aU.Nodup
 len:(Y7 aU)=fi.nl
 le:fi.np<=fi.nl
 iS:fd.globals=eQ
 blt:fd.builtins=rO
section
variable{G:Gl}{A:cG}{s:aA}{ρ:fD}{H:Mi.H}
theorem rF.oy{i:D}{c:FI}{a:ag bR}{h:gQ}{d:ag gZ}(F:rF G i c a h d)(k:∀b o,G.hb.get? b=ae o->s.heap.get? b=ae o){vals:ag ay}(g:(Y7 vals)=c.np):GN s h ⟨vals,[]⟩ ((a.take c.np).zip vals):=by
 have f:(a.take c.np).length=c.np:=by refine I bE ?_;refine I F.len ?_;exact eI F.le
 rcases F.WD with e|⟨T,o,j,n,r,p,m,l⟩
 ·exact yp F.mH (o:=ax) (g.trans f.symm) (bU _) λM A E Q q=>I e (aP q)
 ·exact yp F.mH (o:=ae j) (g.trans f.symm) (f.symm▸l) λM A E Q q=>I r (wpAny_seqItems (k _ _ p) m q)
theorem rF.aJ{i:D}{d:FI}{a:ag bR}{c:gQ}{b:ag gZ}(F:rF G i d a c b)(L:bk):ul G a (nO c L (G.T.qL i)) L where
 kind:=F.kind
 Hi:=rfl
 var j x hx:=F.var j x hx
 nd:=F.nd
 iS:=F.iS
 blt:=F.blt
theorem Ka{α β:Type}:∀(l:ag α) (t:ag β),((l.zip t).map (·.1)).Sublist l:=by
 intro l;induction l with
 |nil=>exact λd=> .slnil
 |cons a l c=>
  intro t;cases t with
  |nil=>exact List.nil_sublist _
  |cons b t=>exact(c t).cons_cons a
theorem CA{a:ag bR}(c:a.Nodup):∀{b:ag ay} {j:D} {x:bR} {y:ay},a[j]? =ae x->b[j]? =ae y->((a.zip b).reverse).lookup x=ae y:=by
 intro b j x y m k;have d:∀{l:ag (bR×ay)},(l.map (·.1)).Nodup->(x,y)∈l->l.lookup x=ae y:=by
  intro l
  induction l with
  |nil=>intro _ h;cases h
  |cons p r g=>
   intro c h;rw[im,jm] at c;refine I fY ?_;cases h with
   |head=>exact I (fW ..) J
   |tail _ h=>
    exact I (show(x==p.1)=ai from aK.mpr λe=>c.1 (I (aQ e) (S4 (f:=(·.1)) h))) (g c.2 h)
 refine d ?_ ?_
 ·exact I Bz ((List.reverse_perm _).nodup_iff.mpr (Ua (Ka _ _) c))
 ·refine Xe.mpr (bI (i:=j) ?_);rewrite[Jd];exact⟨m,k⟩
end
noncomputable def Z.sub(z:Z)(d:gQ)(a L:bk)(c:ag bR)(gl:bR->av V)(C:Cy):Z:=⟨z.G,z.cl,z.A.deeper (nO d L a),z.K,C,c,gl,nO d L a,L,z.b⟩
def PU(z:Z)(X:Prop)(e:ay)(s:aA):Prop:=∃a h tk,e= .ref a/\s=up z.b h tk/\NL z.G z.A a h/\X
theorem zq.call{G:Gl}{A:cG}{ρ:fD}{h a:cW}(s:zq G A iN ρ h){c:rP}{L:bk}{o:A2}(k0:∀b o,h.get? b=ae o->a.get? b=ae o)(q:c.scope.kind= .function)(j:c.frame=ae L)(f:G.hb.get? L=ax)(d:a.get? L=ae o)(r:∀l,o.data≠.fields l)(n:¬own ρ L):zq G (A.deeper c) iN ρ a where
 fr:=kh s.fr λt g u m=>(bQ (c::t) (zS g) (bX (I q (aa J)) (tV L o j f d r) (oq u λb o e f=>(aW o (k0 b o e) f))) (λe i M k=>by
  cases i with
  |head=>cases j.symm.trans k;exact n
  |tail _ i=>exact m e i M k))
 qJ:=aM s.qJ λo d p=>(aW o (k0 _ _ d) p)
 nl:=s.nl
 x _ e:=e.elim
 xM:=s.xM
theorem LR.call{T:kq}{ρ:fD}{a:ag bR}{d nl:D}{c:ag V}{i:ag ay}(m:a.Nodup)(e:(Y7 a)=nl)(n:d<=nl)(l:(Y7 c)=d)(p:iD T ρ c i):LR T a ρ (c.map ae++cE (nl-d) ax) λx=>((a.take d).zip i).reverse.lookup x:=by
 constructor
 ·exact I au (I (aH ..) (I mL (I l (I e (Nat.add_sub_cancel' n)))))
 ·intro j x v q b;rcases Nat.lt_or_ge j (Y7 c) with k|r
  ·rw[bF (I (aH ..) k),dL] at b;exact aM (bw.mp b) λs h g=>sb (si g) (aM (p.get h) λy o f=>aW y (CA (Ua (Wd _ _) m) (j:=j) (by refine I (T8) ?_;exact dG (l▸k) q) o) f)
  ·rw[cF (I (aH ..) r)] at b;have:=bI b;rw[yP] at this;cases this.2
theorem LF{L:bk}{h a d:cW}{ρ c:fD}(g:h.get? L=ax)(k0:∀b o,h.get? b=ae o->a.get? b=ae o)(l:Fm (·=L) a ρ d c):Fm iN h ρ d c:=
 ⟨λb o e f i=>l.nq b o (k0 b o e) f λz=>gG (z▸e) g,l.sub,λb e=>(l.fresh b e).imp id λz=>(lG h b).elim id (by rintro ⟨o,w⟩;exact gG (k0 b o w) z)⟩
section
variable{z:Z}{H:Mi.H}
theorem Pt.call{fd:gQ}{a L:bk}{d:ag bR}{gl:bR->av V}{C:Cy}(p:P0 z H)(l:p.h.get? L=ax){i nl:D}{g:ag V}{m:ag ay}(w:d.Nodup)(k:(Y7 d)=nl)(y:i<=nl)(B:(Y7 g)=i)(A:iD z.G.T p.ρ g m)(E:fd.scope.kind= .function){c:cW}{tk:D}
  (u:c.Ns L λx=>((d.take i).zip m).reverse.lookup x) (k0:∀b o,p.h.get? b=ae o->c.get? b=ae o) (M:(nO fd L a).frame=ae L):∃q:Pt (z.sub fd a L d gl C) (g.map ae++cE (nl-i) ax) H,q.s=up z.b c tk/\q.h=c/\q.ρ=p.ρ:=by
 have n:¬own p.ρ L:=λe=>cs ((p.gB.new _ e).2) λo e=>gG e l;have f:=(lG _ _).elim id (by rintro ⟨o,e⟩;exact gG (p.gB.keep _ _ e) l);have v:L≠z.G.L₀:=λe=>aM p.jO.qJ λo j N=>gG (e▸j) l;refine GW u λo F K j t r=>?_;exact bQ ⟨⟨c,tk,p.ρ,p.gB.Ju k0,p.jO.call k0 E M f j (λg z=>nomatch t.symm.trans z) n⟩,(aW _ (Mh o F K j t r) (LR.call w k y B A)),n,f,v⟩ J J J
theorem P0.NG{a:Z}{Lc:bS}{f:Mi.H}(e:a={z with A:=a.A,C:=a.C,aU:=a.aU,gl:=a.gl,aJ:=a.aJ,L:=a.L})(p:P0 z H)(q:Pt a Lc f)(l:Fm iN p.h p.ρ q.h q.ρ):∃c:P0 z f,c.s=q.s/\c.h=q.h/\c.ρ=q.ρ:=by
 have i:a.G=z.G:=by refine I e ?_;rfl
 exact bQ ⟨q.h,q.tk,q.ρ,i▸q.gB,p.jO.fm l⟩ (by refine(?_ :up z.b q.h q.tk=up a.b q.h q.tk);exact I (show a.b=z.b by exact I e J) J) J J
theorem LW{i:D}{t:FI}{c:ag bR}{m:gQ}{d:ag gZ}(F:rF z.G i t c m d)(dW:z.G.hb.NoLimit)(p:P0 z H)(B:z.A.depth<nM){vs:ag V}{w g:ag ay}(hv:iD z.G.T p.ρ vs w)
  (u:GN p.s m ⟨g,[]⟩ ((c.take t.np).zip w)) {Q:P1} {R:lH->aA->Prop} {C:Cy} {gl:bR->av V} (hb:pe (z.sub m (z.G.T.qL i) p.h.objs.size c gl C) d t.body) (h:Mp C t vs Q H)
  (k:∀v H',Q v H'->∀(q:P0 z H') y,L0 p q->q.vr v y->R (.ok (.ret y)) q.s) (kE:∀e s,PU z C.X e s->R (.error e) s):fG z.cl z.G.M z.A (.call (.ref (z.G.T.qL i)) ⟨g,[]⟩) R p.s:=by
 refine cv h λ_ _=>?_;rename_i hn h;refine aM F.at_ λo ho hd=>qe (fd:=m) (body:=d) B (p.gB.keep _ _ ho) hd (dW.keeps p.gB.keep) (F.code.keeps p.gB.keep) F.body u F.cell (λx W=>?_) (λn S k0=>?_) F.co F.zg F.kind
 ·refine cs (List.mem_iff_getElem?.mp W) λj U=>?_;rw[Jd,T8] at U;split at U
  ·exact F.var j _ U.1
  ·cases U.1
 ·have de:=cz (h:=p.h) (aE _);have S:n.Ns p.h.objs.size λx=>((c.take t.np).zip w).reverse.lookup x:=S;refine(?_ :cP _ _ (z.A.deeper (nO m p.h.objs.size _)) (nN _ (nO m p.h.objs.size _)) _ (λe O=>cP _ _ (z.A.deeper (nO m p.h.objs.size _)) (GF (nO m p.h.objs.size _) e) _ _ O) _);generalize p.h.objs.size=L at hb S de⊢;refine kh (Pt.call (z:=z) (fd:=m) (a:=z.G.T.qL i) (gl:=gl) (C:=C) (nl:=t.nl) p de F.nd F.len F.le hn hv F.kind S k0 (tk:=p.tk+((c.take t.np).zip w).length) J) λq es eh er=>(?_ :cP _ _ _ _ _ _ (up z.b n (p.tk+((c.take t.np).zip w).length)));refine I (aQ es) (fx (hb _ _ q _ (λf O=>R (.ok (.ret (match f with| .ret v=>v|_=> .none))) O) h λL' H' q2 fl f l r h=>?_) (λx_ x_ x=>x) λe O ⟨a,h',tk,Z,Y,x,X⟩=>?_)
  ·have N:=er▸LF de (eh▸k0) l;refine kh (P0.NG J p q2 N) λP Z Y e3=>?_;rw[<-Y,<-e3] at N;refine I (aQ Z) ?_;induction r with
   |next=>exact k _ _ h P .none N J
   |brk=>exact k _ _ h P .none N J
   |ret r=>exact k _ _ h P _ N (show VR _ P.ρ _ _ from e3.symm▸r)
  ·subst Z Y;exact aM p.jO.fr λfs K x_=> .of (EI (s:=up z.b h' tk) (outer:=fs) (zS K) J x λE a0 fl lw=>kE _ _ (uR a E tk J J (nT fs a0 K fl lw) X))
end
end Mi
end
set_option backward.match.sparseCases false
section
namespace Mi
open PySem PySem.W PySem.Calls PyProof.Rows
open Sem (wp)
structure sG(G:Gl)(K:pq):Prop where
 obj:∃od cd sl B,K.lookup G.X₀=ae ⟨.type "type",od,.cls cd,sl⟩/\cd.mro=[.ref G.X₀,.ref B,.type "Exception",.type "BaseException",.type "object"]/\cd.abstract=ai/\cd.hasDel=ai/\cd.hasDict=am/\(sl.toList[4]?).join=ae (.builtin "Exception.__new__")
 call:specialIn K (.ref G.X₀) "__call__"=ae (ae (.builtin "type.__call__"))
 typ:instIn K (.ref G.X₀) (.type "type")=ae am
 init:tC K (.ref G.X₀) "__init__"=ae (ae (.ref (G.T.qL 1)))
 fn:typeIn K (.ref (G.T.qL 1))=ae (.type "function")
 sa:tC K (.ref G.X₀) "__setattr__"=ae (ae (.builtin "object.__setattr__"))
 val:tC K (.ref G.X₀) "value"=ae ax
 Xn:tC K (.ref G.X₀) "trace"=ae ax
structure yt(M:lP)(h:cW)(C:bk):Prop where
 obj:∃oc od cd sl,h.get? C=ae ⟨oc,od,.cls cd,sl⟩/\oc= .type "type"/\cd.abstract=ai/\cd.hasDel=ai/\cd.mro.isEmpty=ai/\cd.hasDict=am
 mro:∃B,kz M h (mroOf (.ref C)) [.ref C,.ref B,.type "Exception",.type "BaseException",.type "object"]
 made:kz M h (zQ (.ref C)) (ae "Exception.__new__")
 fV:kz M h (Bind.staticBase (.ref C)) (.ref C)
 sub:∀t,t= .ref C\/t= .type "Exception"\/t= .type "BaseException"\/t= .type "object"->kz M h (V7 (.ref C) t) am
 MM:∀t,t= .type "AttributeError"\/t= .type "NameError"->kz M h (V7 (.ref C) t) ai
 call:kz M h (specialOf (.ref C) "__call__") (ae (.builtin "type.__call__"))
 typ:kz M h (isInstance (.ref C) (.type "type")) am
theorem sZ{G:Gl}{K:pq}{M:lP}{h:cW}(X:K.In h)(e:sG G K):yt M h G.X₀:=by
 obtain⟨⟨m,c,l,B,g,a,v,u,r,p⟩,o,n,_⟩:=e
 have j:clsIn K G.X₀=ae c:=by unfold clsIn;refine I g ?_;rfl
 have i:kz M h (mroOf (.ref G.X₀)) c.mro:=(looks_clsIn X j).andThen .now
 have b:kz M h (zQ (.ref G.X₀)) (ae "Exception.__new__"):=by
  intro A Q E s k q
  refine aB (i A _ E s k ?_)
  refine I a ?_;refine I (kO ..) ?_
  refine aB (aB (aB (aB (rG (k _ _ (X _ _ g)) (aP ?_)))))
  refine I (aQ (cU)) ?_;refine I p ?_
  exact aP (aP (aP q))
 have d:c.mro.isEmpty=ai:=by refine I a ?_;rfl
 refine⟨(S7 (.type "type") m c l (X _ _ g) J v u ⟨d,r⟩),⟨B,a▸i⟩,b,?_,λt f=>looks_mroIn X ?_,λt f=>looks_mroIn X ?_,looks_specialIn X o,looks_instIn X n⟩
 ·intro A Q E s k q
  exact aB (i A _ E s k (I a (I (kO ..) (aB (aB (aB (b A _ E s k (aP (aP (aP q))))))))))
 ·unfold mroIn
  refine I j (I (iJ ..) (cM (by exact I d (aa J)) (I a ?_)))
  rcases f with rfl|rfl|rfl|rfl<;>simp
 ·unfold mroIn
  refine I j (I (iJ ..) (cM (by exact I d (aa J)) (I a ?_)))
  rcases f with rfl|rfl<;>simp
noncomputable abbrev xS(C t:bk):A2:={cls:= .ref C,data:= .fields #[.ref t,.none,.none,.none,.bool ai,.none]}
section
variable{prog:dZ}{w:dj}{A:cG}{R:lH->aA->Prop}{h:cW}{g:eZ GenState}{d:Drawn}{t:D}{os:jh}{C:bk}
theorem E5{a:ag ay}(Y:yt (bP prog w) h C)(y:(Y7 a)<=iI)
  (o:R (.ok (.ret (.ref (h.objs.size+1)))) ⟨(h.push {cls:= .type "tuple",data:= .seq a.toArray}).push (xS C h.objs.size),g,d,t,os⟩):
  tR (bP prog w) A (.builtin "Exception.__new__" ⟨.ref C::a,[]⟩) R ⟨h,g,d,t,os⟩:=by
 have F:=Jc;have i:=F.ends;obtain⟨⟨u,s,H,q,z,_,G,E,B,_⟩,_,c,e,f,b,m,n⟩:=Y;have r:=f (.type "Exception") (.inr (.inl J));have x:=b (.type "AttributeError") (.inl J);have v:=b (.type "NameError") (.inr J);have k:kz (bP prog w) h (Bind.madeHere "BaseException.__new__" (.ref C)) ():=e.andThen (c.andThen (Looks.of_pure (by simp only [oB,F.canon,qD,yR,if_false])));refine codeAny_builtinAt F.entry ?_;refine PySem.wpAt_bind (?_ :PySem.wpAt _ _ _ (stack>>=_) _ _ _);refine PySem.wpAt_bind (PySem.wpAt_stack λp j=>SY ?_);wp_walk;refine SY (I F.owner ?_);repeat (first|with_reducible refine Looks.at (by assumption) ?_ |simp only [Bool.not_true,qD,yR,if_false]|wp_step)
 refine(?_ :R _ _);exact I (gA ..) o
theorem E8{a:ag ay}(Y:yt (bP prog w) h C)(m:(Y7 a)<=iI)
  (l:R (.ok (.ret (.ref (h.objs.size+1)))) ⟨(h.push {cls:= .type "tuple",data:= .seq a.toArray}).push (xS C h.objs.size),g,d,t,os⟩):
  tR (bP prog w) A (.call (.builtin "Exception.__new__") ⟨.ref C::a,[]⟩) R ⟨h,g,d,t,os⟩:=by
 have n:=Y;obtain⟨⟨r,q,u,o,s,_⟩,_,c,i,b,k,f,j⟩:=Y;have F:=Jc;refine codeAny_call_builtin_code (DN _ F.quiet) ?_;have p:=b (.type "Exception") (.inr (.inl J));simp only [ph,F.newKind,F.newSplit,F.newRow];repeat (first|with_reducible refine Looks.at (by assumption) ?_ |simp only [F.canon,Bool.not_true,qD,yR,if_false]|wp_step)
 exact E5 n m l
end
noncomputable abbrev wR(h:cW)(C:bk)(a:ag ay):cW:=(h.push {cls:= .type "tuple",data:= .seq a.toArray}).push (xS C h.objs.size)
section
variable{cl:aD}{prog:dZ}{w:dj}{A:cG}{C:bk}{R:lH->aA->Prop}{s:aA}
theorem AX{a:ag ay}{c:ay}(Y:yt (bP prog w) s.heap C)(p:(Y7 a)<=iI)(hi:kz (bP prog w) s.heap (jD (.ref C) "__init__") (ae c))
  (q:∀f,kz (bP prog w) s.heap (bindSpecial c f) (c,[f]))
  (n:fG cl (bP prog w) (A.under (.builtin "type.__call__" ⟨.ref C::a,[]⟩)) (.call c ⟨.ref (s.heap.objs.size+1)::a,[]⟩) (InitBack (s.heap.objs.size+1) R) {s with heap:=wR s.heap C a}):
  fG cl (bP prog w) A (.call (.ref C) ⟨a,[]⟩) R s:=by
 refine Mk Y.obj λy x z v r i i i j=>cv j λu i=>?_;have k:=bJ (s.heap.push {cls:= .type "tuple",data:= .seq a.toArray}) (o:=xS C s.heap.objs.size) J;rw[gA] at k;exact tY r u Y.call Y.typ Y.made (Y.sub _ (.inl J)) hi (q _) (λb o e=>aN _ (aN _ e)) k J (λg=>E8 (h:=s.heap) (g:=s.gens) (d:=s.drawn) (t:=s.toks) (os:=s.os) Y p g) n
end
end Mi
end
section
namespace Mi
open PySem PySem.W PySem.Calls PyProof.Rows Builtin.ObjectAttr
open Sem (wp)
def Cj(h:cW)(x:bk)(b:A2)(n:D):Prop:=b.dict=ax\/∃d a m,b.dict=ae d/\d≠x/\h.get? d=ae {cls:= .type "dict",data:= .dict a m}/\a.any (·.refKey)=ai/\a.size<=n
section
variable{prog:dZ}{w:dj}{A:cG}{E:ay->aA->Prop}{s:aA}{G:Gl}{K:pq}
theorem vY{d:bk}{b:eZ dX}{m n:D}{a:bR}{tk:Tok}{v:ay}{Q:PySem.Fin->aA->Prop}(t:s.heap.get? d=ae {cls:= .type "dict",data:= .dict b m})(x:b.any (·.refKey)=ai)(z:b.size<=n)(F:n<=1000)
  (h:∀u tk,(∃b m,u.get? d=ae {cls:= .type "dict",data:= .dict b m}/\b.any (·.refKey)=ai/\b.size<=n+1)->kR d s.heap u->Q (.done (.ret .none)) {s with heap:=u,toks:=tk}):cu (bP prog w) A (storeInDict d (.str a tk) a v) Q E s:=by
 refine aB (aP (aB ?_));refine aB (aB (wpAny_askSetting (aP (aB (W2 (aB (rG t ?_)))))));dsimp only;refine I (W6 ..) (I (show(!b.any (·.key.isStr a)&&b.any (·.refKey))=ai by exact I x (I (lV ..) J)) (cY (vT a (ji w.params a) (.str a s.toks) v (.type "dict") ax b m #[]) λl C y r=>?_));have k:=eF (zP a (ji w.params a) (.str a s.toks) v) t (I y J);rw[y] at k;have j:∀e∈b.toList,e.refKey=ai:=by
  intro e f
  refine cs (Qe.mp f) λi g=>?_;refine cs g λp c=>?_;refine sb c ?_
  have:=((Array.any_eq_false.mp x)) i (by simpa using p)
  simpa using this
 have q:(Y7 l.toList)<=n+1/\l.toList.any (·.refKey)=ai:=by
  refine I r ?_
  unfold y0
  split
  ·refine⟨by simp<;>exact dw 0xd6824102e040 J z,jA.mpr λe f=>?_⟩;refine cs (Qe.mp f) λi g=>cs g λp c=>?_;refine sb c (I (List.getElem_modify ..) ?_);split
   ·have:=j (b.toList[i]'(by simpa using p)) (dh _);simpa [J4] using this
   ·have:=j (b.toList[i]'(by simpa using p)) (dh _);simpa using this
  ·refine⟨by simp<;>exact dw 0xd4102e040 J z,jA.mpr λe f=>?_⟩;rcases dH.mp f with f|f
   ·simpa using (j e f)
   ·refine I (ao.mp f) ?_;simp[J4]
 exact wpAny_updatePart t (aB (vI k (pastItsLine_dict (I fp (I (aQ bY) (dw 0x35a09618618618241ba824006e8262c0 J F q.1)))) (aP (h _ _ (nT l C k (I (aQ mT) q.2) (I (aQ bY) q.1)) (gP s.heap d (zP a (ji w.params a) (.str a s.toks) v))))))
theorem K2(X:K.In s.heap)(EO:sG G K){x:bk}{ox:A2}{vs:eZ ay}{n:D}{name:bR}{v:ay}{Q:xj->aA->Prop}(hx:s.heap.get? x=some ox)(hc:ox.cls= .ref G.X₀)(hd:ox.data= .fields vs)(hdict:Cj s.heap x ox n)(hs:n<=1000)
  (hf:tC K (.ref G.X₀) name=some none)
  (h:∀h' tk,(∃d,(ox.dict=some d\/s.heap.get? d=none)/\h'.get? x=some {ox with dict:=some d}/\Cj h' x {ox with dict:=some d} (n+1))->(∀b o,b≠x->ox.dict≠some b->s.heap.get? b=some o->h'.get? b=some o)->Q () {s with heap:=h',toks:=tk}):
  cu (bP prog w) A (PySem.setAttr (.ref x) name v) Q E s:=by
 obtain⟨⟨oc,od,cd,sl,hC,_,e1,e2,e4,e5⟩,⟨B,mro⟩,made,fV,sub,MM,call,typ⟩:=(sZ X EO)
 obtain⟨odict,hod⟩:∃od,InstAt s.heap x ox G.X₀ od:=by
  have no:notCls ox=am:=by unfold notCls;refine I hd ?_;rfl
  rcases hdict with e|⟨d,es,m,e,_,hdd,_⟩
  ·exact⟨none,hx,hc,no,by refine I e ?_;trivial⟩
  ·exact⟨some _,hx,hc,no,I e hdd⟩
 refine set_plain X hod EO.sa ?_
 have SF:=PySem.F.store_object
 refine codeAny_call_builtin SF.slot.plain SF.entry (@check_slot (bP prog w) _ _ {s with toks:=s.toks+1} "object.__setattr__" "object" "__setattr__" (.ref x) [.str name s.toks,v] [] _ SF.kind SF.split (hod.type.andThen (sub _ (.inr (.inr (.inr J))))) (SF.args (.ref x) (.str name s.toks) v) (I (osa_eq ..) (I (refuse_eq ..) (aB (aB (hod.type.here (s:={s with toks:=s.toks+1}) (aB (mro.here (s:={s with toks:=s.toks+1}) (I (refuseLoop_ref ..) (I (refuseLoop_ref ..) (I (PySem.F.store_Exception.passes ..) (aP (aB (hod.type.here (s:={s with toks:=s.toks+1}) (aB ((looks_findIn X hf).here (s:={s with toks:=s.toks+1}) (aB (aP ?_))))))))))))))))))
 refine aB (aP (aB (aB (rG (s:={s with toks:=s.toks+1}) hx (I hc (aB ((((Looks.ld (part:=none) hC).andThen .now):kz (bP prog w) s.heap (classData G.X₀) cd).here (s:={s with toks:=s.toks+1}) (I e5 (cM (aa J) ?_)))))))))
 rcases hdict with e|⟨d,es,m,e,hne,hdd,hr,hn⟩
 ·refine I e ?_
  refine cM (by simp[typeHasDict]) (I hd ?_)
  refine aB (wpAny_alloc (aB ?_))
  have hxs:=cr (hB hx)
  have hx1:(s.heap.push {cls:= .type "dict",data:= .dict #[]}).get? x=some ox:=aN _ hx
  refine WY (s:={s with heap:=s.heap.push {cls:= .type "dict",data:= .dict #[]},toks:=s.toks+1}) hx1 (aP ?_)
  have hx2:((s.heap.push {cls:= .type "dict",data:= .dict #[]}).update x λo=>{o with dict:=some s.heap.objs.size}).get? x=some {ox with dict:=some s.heap.objs.size}:=
   eF _ hx1 (Obj.isFreed_of_fields hd)
  have hd2:((s.heap.push {cls:= .type "dict",data:= .dict #[]}).update x λo=>{o with dict:=some s.heap.objs.size}).get? s.heap.objs.size=some {cls:= .type "dict",data:= .dict #[]}:=
   (nQ _ _ hxs).trans (bJ _ rfl)
  refine vY (n:=0) (s:={s with heap:=(s.heap.push {cls:= .type "dict",data:= .dict #[]}).update x λo=>{o with dict:=some s.heap.objs.size},toks:=s.toks+1}) hd2 (by simp) (by simp) (Wx 0x358262c8 J) λh' tk hd' sb=>pC hd' λes' m' h1 h2 h3=>?_;clear hd'
  exact h h' tk (bQ s.heap.objs.size (.inr (cz (aE _))) ((sb.2 x hxs).trans hx2) (.inr (tU _ es' m' J (pr hxs) h1 h2 (dw 0xd6824102ea09200 J h3)))) λb o hb x_ hbo=>(sb.2 b (cr (hB hbo))).trans ((nQ _ _ (pr hb)).trans (aN _ hbo))
 ·refine I e (aP (vY (s:={s with toks:=s.toks+1}) hdd hr hn hs λh' tk hd' sb=>pC hd' λes' m' h1 h2 h3=>?_));clear hd'
  refine h h' tk (bQ d (.inl e) ?_ (.inr (tU d es' m' J hne h1 h2 h3))) λb o hb hb2 hbo=>(sb.2 b λz=>hb2 (I e (I z J))).trans hbo
  refine(sb.2 x (pr hne)).trans (hx.trans ?_)
  obtain⟨c1,c2,c3,c4⟩:=ox
  clear hx hc hd h hod;subst e;rfl
end
section
variable{prog:dZ}{w:dj}{A:cG}{E:ay->aA->Prop}{s:aA}{G:Gl}{K:pq}
theorem sd(X:K.In s.heap)(EO:sG G K){f:rP}{L:bk}{l:be}{q p z:gz}{x:bk}{i:A2}{T:eZ ay}{n:D}{c:bR}{m:bR->av ay}{Q:Bw->aA->Prop}
  (Z:f.scope.kind= .function) (Y:f.kindOf "self"=ae .local) (hL:f.locals=L) (M:s.heap.Ns L m) (W:m "self"=ae (.ref x)) (O:s.heap.get? x=ae i) (hc:i.cls= .ref G.X₀) (R:i.data= .fields T) (V:n<=1000) (hf:tC K (.ref G.X₀) c=ae ax) (j:kP l=am)
  (h:cu (bP prog w) A (zN l f) (λv a=>(∀b o,s.heap.get? b=ae o->a.heap.get? b=ae o)/\Cj a.heap x i n/\i.dict≠ae L/\∀k tk,k.Ns L m->(∃d,(i.dict=ae d\/a.heap.get? d=ax)/\k.get? x=ae {i with dict:=ae d}/\Cj k x {i with dict:=ae d} (n+1))->
   (∀b o,b≠x->i.dict≠ae b->a.heap.get? b=ae o->k.get? b=ae o)->Q .next {a with heap:=k,toks:=tk}) E s):
  cu (bP prog w) A (GH (.Assign [.Attribute (.Name "self" q) c p] l z) f) Q E s:=by
 refine I (mG ..) (I (show CX [.Attribute (.Name "self" q) c p] l z.line f=pure ai from lC j (ae (.Attribute (.Name "self" q) c p)) z.line f) ?_);refine I (kW (t:= .Attribute (.Name "self" q) c p) (e:=l) (by cases l<;>rfl) f) ?_;refine aB (fA (aB (aP (cM aC (aB (iX h (λv a g=>?_) λF F e=>e))))));refine rQ g λ_ _ _ _=>?_;rename_i y S U g;refine aB (aP (?_ :cu (bP prog w) A (ur (.Attribute (.Name "self" q) c p) f v>>=λF=>pure J0) Q E _));refine I (arm_assign_Attribute ..) (aB (aB (CV (I (jM ..) (I (show((bZ "self")==("__debug__":bR))=ai by decide+kernel) (aB (fA (kB Z Y (I hL (M.keeps y)) W (aB (fA (aB (CV (K2 (X.keeps y) EO (y _ _ O) hc R S V hf λk tk B N=>wpAny_release (aP (g k tk ?_ B N)))))))))))))));refine GW M λH es ep C r h3=>?_;exact Mh H es ep (N L H (λe=>by rw[e,O] at C;revert r;refine sb (si C) λr=>?_;rw[R] at r;cases r) U (y _ _ C)) r h3
end
structure rE(body:ag gZ):Prop where
 is:∃p1 p2 p3 p4 p5 p6 p7 p8:gz,body=[.Assign [.Attribute (.Name "self" p1) "value" p2] (.Name "value" p3) p4,.Assign [.Attribute (.Name "self" p5) "trace" p6] (.List [] p7) p8]
section
variable{cl:aD}{prog:dZ}{w:dj}{G:Gl}{A:cG}{K:pq}{s:aA}
theorem IM{hb:cW}(X:K.In hb)(l:sG G K)(k0:∀b o,hb.get? b=ae o->s.heap.get? b=ae o){x t L:bk}(dx:hb.get? x=ax){aJ:rP}(O:aJ.scope.kind= .function)(Z:aJ.kindOf "self"=ae .local)(l2:aJ.kindOf "value"=ae .local)(U:aJ.locals=L){m:bR->av ay}(B:s.heap.Ns L m)(Y:m "self"=ae (.ref x)){z:ay}(mv:m "value"=ae z)
  (hx:s.heap.get? x=ae (xS G.X₀ t)) {a:ag gZ} (IT:rE a) {Q:Bw->aA->Prop} {E:ay->aA->Prop} (h:∀k f,(∀b o,hb.get? b=ae o->k.get? b=ae o)->(∃u,k.get? x=ae u/\u.cls= .ref G.X₀/\u.data=(xS G.X₀ t).data)->Q .next {s with heap:=k,toks:=f}):cP cl (bP prog w) A (nN a aJ) Q E s:=by
 refine GV IT.is λp1 p2 p3 p4 v=>GV v λp5 p6 p7 p8 g=>?_;refine I g (I (ic ..) (aG (.of (sd (n:=0) (X.keeps k0) l O Z U B Y hx J J (ac J) l.val J (I (jM ..) (I (show((bZ "value")==("__debug__":bR))=ai by decide+kernel) (aB (fA (kB O l2 (U▸B) mv (qG (λc c e=>e) (.inl J) nofun (λV r y R i=>kh R λd1 S N q=>?_)))))))))));have C:∀{b o},hb.get? b=ae o->b≠x:=λe z=>gG (z▸e) dx;have W:∀{b o},s.heap.get? b=ae o->ae d1≠ae b:=λe z=>gG (aT z▸e) (S.resolve_left nofun);refine(?_ :cP cl _ A (nN [_] aJ) Q E _);refine I (ic ..) (aG (.of (sd (s:={s with heap:=V,toks:=r}) (n:=1) (X.keeps λb o e=>i b o (C e) nofun (k0 _ _ e)) l O Z U y Y N J J (ac J) l.Xn J (I (arm_eval_List ..) ?_))));have H:∀b o,V.get? b=ae o->(V.push {cls:= .type "list",data:= .seq ([]:ag ay).toArray}).get? b=ae o:=λb o e=>aN _ e;refine aB (fA (aB (aP (wpAny_newList (qG H (q.imp id λp=>DU p λd es m e1 e2 e3 e4=>(uR d es m e1 e2 (H _ _ e3) e4)) (λe=>?_) (λk f aj P F=>?_)) (I fp (ac J))))))
 ·exact wW B λc c c T c=>W T e
 ·refine kh P λd2 c M c=>?_;refine(?_ :cP cl _ A (nN [] aJ) Q E _);exact I (C3 ..) (aX (h k f (λb o e=>F b o (C e) (W (k0 _ _ e)) (H _ _ (i b o (C e) nofun (k0 _ _ e)))) (bQ _ M J J)))
end
section
variable{cl:aD}{G:Gl}{A:cG}{K:pq}{s:aA}
theorem I0{R:FI}{S:gQ}{l:ag gZ}(In:K.In G.hb)(C:sG G K)(F:rF G 1 R ["self","value"] S l)(m:R.np=2)(IT:rE l)(dW:G.hb.NoLimit)(d:∀b o,G.hb.get? b=ae o->s.heap.get? b=ae o)(u:A.depth+1<nM){z:ay}
  {Q:ay->aA->Prop} {E:ay->aA->Prop} (h:∀e N tk,(∀b o,s.heap.get? b=ae o->N.get? b=ae o)->s.heap.get? e=ax->(∃v t,N.get? e=ae v/\v.cls= .ref G.X₀/\v.data= .fields #[.ref t,.none,.none,.none,.bool ai,.none])->Q (.ref e) {s with heap:=N,toks:=tk}):
  cP cl G.M A (cX (.ref G.X₀) [z]) Q E s:=by
 have X:=In.keeps d;refine lB (AX (w:=G.w) (sZ X C) (by refine(?_ :1<=iI);exact I fp (Wx 0x35618618618249 J)) (looks_findIn X C.init) (λr=>bind_fn X r C.fn) ?_);have k:∀b o,s.heap.get? b=ae o->(wR s.heap G.X₀ [z]).get? b=ae o:=λb o e=>aN _ (aN _ e);have hx:(wR s.heap G.X₀ [z]).get? (s.heap.objs.size+1)=ae (xS G.X₀ s.heap.objs.size):=by
  have:=bJ (s.heap.push {cls:= .type "tuple",data:= .seq [z].toArray}) (o:=xS G.X₀ s.heap.objs.size) J
  rwa [gA] at this
 have F0:=F;obtain⟨⟨o,ho,n⟩,y,q,W,af,B,km,co,zg,i,f,nd,Z,le,P,aj⟩:=F;refine qe (s:={s with heap:=wR s.heap G.X₀ [z]}) (u) (k _ _ (d _ _ ho)) n (dW.keeps λb o e=>k b o (d b o e)) (y.keeps λb o e=>k b o (d b o e)) q (F0.oy (s:={s with heap:=wR s.heap G.X₀ [z]}) (λb o e=>k b o (d b o e)) (vals:=[.ref (s.heap.objs.size+1),z]) (I m J)) B ?_ ?_ co zg i
 ·refine I m λp x=>?_;rcases aZ.mp x with rfl|x
  ·exact f 0 _ rfl
  ·rcases aZ.mp x with rfl|x
   ·exact f 1 _ rfl
   ·cases x
 ·refine I m λO Y g=>?_;have U:s.heap.get? (s.heap.objs.size+1)=ax:=cz (dR _);exact IM (hb:=s.heap) (z:=z) X C (λb o e=>g _ _ (k _ _ e)) U (aJ:=nO S (wR s.heap G.X₀ [z]).objs.size (G.T.qL 1)) i (f 0 _ rfl) (f 1 _ rfl) J Y J J (g _ _ hx) IT λh2 H kp L=>⟨rfl,h (s.heap.objs.size+1) h2 H kp U (kh L λv a b c=>(nT v _ a b c))⟩
end
end Mi
end
section
namespace Mi
open PySem PySem.W PySem.Calls PyProof.Rows
def SP(G:Gl)(f:aD)(A:cG):Prop:=∀(s:aA) (z:ay) (Q:ay->aA->Prop) (E:ay->aA->Prop),(∀b o,G.hb.get? b=ae o->s.heap.get? b=ae o)->
 (∀e c tk,(∀b o,s.heap.get? b=ae o->c.get? b=ae o)->s.heap.get? e=ax->(∃a t,c.get? e=ae a/\a.cls= .ref G.X₀/\a.data= .fields #[.ref t,.none,.none,.none,.bool ai,.none])->Q (.ref e) {s with heap:=c,toks:=tk})->
 cP f G.M A (cX (.ref G.X₀) [z]) Q E s
structure JF(z:Z)(id:bR):Prop where
 kind:z.aJ.kindOf id=ae .globalImplicit
 iS:∃mg,z.G.hb.Ns eQ mg/\mg id=ae (.ref z.G.X₀)
 keep:Bt z.K (.ref z.G.X₀)=am
 eo:sG z.G z.K
 E0:(id==("__debug__":bR))=ai
 Jr:SP z.G z.cl z.A
theorem D0{G:Gl}{A:cG}{K:pq}{s:aA}(B:sG G K)(X:K.In s.heap)(x:A.handled=ax){e:bk}{b:A2}{t:bk}(y:s.heap.get? e=ae b)(m:b.cls= .ref G.X₀)(l:b.data= .fields #[.ref t,.none,.none,.none,.bool ai,.none]){j:rP}{Q:Bw->aA->Prop}{E:ay->aA->Prop}(z:E (.ref e) s):
  cu G.M A (V5 j (ae (pure (.ref e))) ax) Q E s:=by
 obtain⟨⟨v,L,R,C,i,f,P,O,N,_⟩,_,k,o,c,w,n,p⟩:=(sZ X B);revert i;refine I f λi=>?_;have F:=c (.type "BaseException") (.inr (.inr (.inl J)));obtain⟨h,g,d,tk,H⟩:=s;obtain⟨v,r,u,q⟩:=b;dsimp only at m l;subst m l;refine aB (aP ?_);repeat (first|with_reducible refine Looks.at (by assumption) ?_ |with_reducible refine a y ?_ |with_reducible refine a i ?_ |wp_step)
 exact wpAny_raiseNew_none x z
theorem AQ(a:rP)(x:nE ay):V5 a (ae x) ax=(x>>=λv=>V5 a (ae (pure v)) ax):=rfl
section
variable{z:Z}
theorem Eb(F:z.Ok){id:bR}(R:JF z id){e:be}{m:E}{w c d:gz}(Y:eJ e=am)(x:gh z e m):sE z (.Raise (ae (.Call (.Name id w) [e] [] c)) ax d) (.ra m):=λLc H p Q W h k=>by
 refine I (arm_exec_Raise ..) (?_ :z.wp (iH d>>=λN=>V5 z.aJ (ae (eval (.Call (.Name id w) [e] [] c) z.aJ>>=λv=>iH d>>=λN=>pure v)) ax) W p.s);refine .cC (I (AQ ..) (aM R.iS λmg u L=> .bind (.bind (?_ :z.wp (eval (.Name id w) z.aJ>>=λf=>vM c f [] (P7 c (rJ [e] z.aJ)) []) _ _))));refine I (eX (I ju (I Y J))) (I (jM ..) (I R.E0 (.bind (.cC (.of (cM aC (I (loadName_read F.en.kind R.kind) (P8 (I F.en.iS (u.keeps p.gB.keep)) L (og (P:=z.K.In) (λh hK=>TY R.keep hK) (?_ :z.wp (pF ((ai,eval e z.aJ)::[])) _ _))))))))));rewrite[pF];refine .bind (x _ _ p _ _ h λN q v y l r h=>?_);refine(?_ :z.wp (jE [y] (pF [])>>=λr=>pure ([y]++r)) _ _);refine .bind (.fE (.pure (.pure ⟨q.zG F,R.Jr q.s y _ _ q.gB.keep λa U g k A i=>pC i λX t O T S=>?_⟩)));refine .cC (.pure (.of (D0 (s:=up z.b U g) R.eo (F.fV.In.keeps λb o e=>k b o (q.gB.keep b o e)) F.hd O T S ?_)));obtain⟨⟨fr,Z,ff,no⟩,⟨V,B,M,C⟩,_⟩:=q.jO;exact uR a U g J J ⟨λb o e=>k b o (q.gB.keep b o e),(lG z.G.hb a).elim (λx=>x) λj=>cs j λo e=>gG (q.gB.keep _ _ e) A,(aW fr Z (oq ff λb o e n=>(aW o (k b o e) n))),(bQ V (k _ _ B) M C),.inl ⟨rfl,X,_,.ref t,O,T,S,rfl,rfl⟩⟩ h
end
structure Rd where
 aU:ag bR
 gl:bR->av V
 attrs:ag bR
 nm:bR->av E
 yg:av bR
noncomputable abbrev E0:bR:="__debug__"
noncomputable def ok{α:Type}(b:aD)(x:av α):av α:=if b then x else ax
theorem BX{α:Type}{b:aD}{x:av α}{m:α}(h:ok b x=ae m):b=am/\x=ae m:=by
 induction b with
 |true=>exact⟨rfl,h⟩
 |false=>exact nn h
theorem bd{α β:Type}{o:av α}{f:α->av β}{m:β}(h:o.bind f=ae m):∃a,o=ae a/\f a=ae m:=by
 induction o with
 |none=>exact nn h
 |some a=>exact aW a J h
theorem eA{α β:Type}{o:av α}{f:α->av β}{m:β}{G:Prop}(h:o.bind f=ae m)(k:∀a,o=ae a->f a=ae m->G):G:=aM (bd h) k
theorem jq{α:Type}{b:aD}{x:av α}{m:α}{G:Prop}(h:ok b x=ae m)(k:b=am->x=ae m->G):G:=k (BX h).1 (BX h).2
noncomputable def qi{α β:Type}(f:α->av β):ag α->av (ag β)
 |[]=>ae []
 |a::r=>(f a).bind λb=>(qi f r).bind λl=>ae (b::l)
theorem lX{α β:Type}{f:α->av β}:∀{g:ag α} {c:ag β},qi f g=ae c->fe (λe m=>f e=ae m) g c:=by
 intro a;induction a with
 |nil=>
  intro i h;exact sb (si h) .nil
 |cons e r j=>
  intro i h;exact eA h λb n h=>eA h λl k h=>sb (si h) (.cons n (j k))
noncomputable def ix(l:ag bR)(s:bR):av D:=l.findIdx? (·==s)
theorem j6{l:ag bR}{s:bR}{i:D}(h:ix l s=ae i):l[i]? =ae s:=by
 refine aM (List.findIdx?_eq_some_iff_getElem.mp h) λb a c=>?_;refine I (aI b) ?_;exact I (a6.mp a) J
inductive Vw where
 |mV (lo hi:av be) (p:gz)
 |name (x:bR) (p:gz)
 |dK (o:be) (a:bR) (p:gz)
 |bq (es:ag be) (k:D) (p:gz)
 |eS (es:ag be) (p:gz)
 |int (i:aF) (k:D) (p:gz)
 |comp (e:be) (g:ag jN) (sc:jY) (p:gz)
 |sub (o i:be) (p:gz)
 |call (f:be) (es:ag be) (kw:ag Keyword) (p:gz)
 |other
noncomputable def vw:be->Vw
 | .Slice l n h p=>match h with
  |none=> .mV l n p
  |some _=> .other
 | .Name x p=> .name x p
 | .Attribute o a p=> .dK o a p
 | .Tuple b k p=> .bq b k p
 | .List b p=> .eS b p
 | .Constant c k p=>match c with
  | .int i=> .int i k p
  |_=> .other
 | .ListComp e g j p=> .comp e g j p
 | .Subscript o i p=> .sub o i p
 | .Call f b m p=> .call f b m p
 |_=> .other
def Vw.is(e:be):Vw->Prop
 | .mV h l p=>e= .Slice h l ax p
 | .name x p=>e= .Name x p
 | .dK o a p=>e= .Attribute o a p
 | .bq b k p=>e= .Tuple b k p
 | .eS b p=>e= .List b p
 | .int i k p=>e= .Constant (.int i) k p
 | .comp x g c p=>e= .ListComp x g c p
 | .sub o i p=>e= .Subscript o i p
 | .call f b j p=>e= .Call f b j p
 | .other=>JY
theorem qr(e:be):(vw e).is e:=by
 cases e with
 |Slice b f a p=>cases a<;>first|exact J|exact trivial
 |Constant c k p=>cases c<;>first|exact J|exact trivial
 |_=>first|exact J|exact trivial
noncomputable def Vw.OB:Vw->av (av be×av be)
 | .mV a b _=>ae (a,b)
 |_=>ax
noncomputable def Vw.RX:Vw->av bR
 | .name x _=>ae x
 |_=>ax
noncomputable def Vw.SJ:Vw->av (be×bR×gz)
 | .dK o a p=>ae (o,a,p)
 |_=>ax
noncomputable def Vw.Ui:Vw->av (ag be)
 | .bq a _ _=>ae a
 |_=>ax
noncomputable def Vw.UD:Vw->av (ag be)
 | .eS a _=>ae a
 |_=>ax
noncomputable def Vw.UJ:Vw->av aF
 | .int i _ _=>ae i
 |_=>ax
noncomputable def Vw.Sw:Vw->av (be×ag jN×jY×gz)
 | .comp e g s p=>ae (e,g,s,p)
 |_=>ax
noncomputable def Vw.Un:Vw->av (be×be)
 | .sub o i _=>ae (o,i)
 |_=>ax
noncomputable def Vw.SD:Vw->av (be×ag be×ag Keyword)
 | .call f b a _=>ae (f,b,a)
 |_=>ax
noncomputable def uO(e:be):=(vw e).OB
noncomputable def jG(e:be):=(vw e).RX
noncomputable def sC(e:be):=(vw e).SJ
noncomputable def zo(e:be):=(vw e).Ui
noncomputable def Gz(e:be):=(vw e).UD
noncomputable def GB(e:be):=(vw e).UJ
noncomputable def vk(e:be):=(vw e).Sw
noncomputable def Gv(e:be):=(vw e).Un
noncomputable def sB(e:be):=(vw e).SD
theorem CU{e:be}{x:av be×av be}(h:uO e=ae x):∃p,e= .Slice x.1 x.2 ax p:=by
 have g:=qr e;unfold uO at h;cases a:vw e<;>rw[a] at g h<;>cases h;exact⟨_,g⟩
theorem iC{e:be}{x:bR}(h:jG e=ae x):∃p,e= .Name x p:=by
 have g:=qr e;unfold jG at h;cases a:vw e<;>rw[a] at g h<;>cases h;exact⟨_,g⟩
theorem te{e:be}{x:be×bR×gz}(h:sC e=ae x):e= .Attribute x.1 x.2.1 x.2.2:=by
 have g:=qr e;unfold sC at h;cases a:vw e<;>rw[a] at g h<;>cases h;exact g
theorem vF{e:be}{x:ag be}(h:zo e=ae x):∃a p,e= .Tuple x a p:=by
 have g:=qr e;unfold zo at h;cases b:vw e<;>rw[b] at g h<;>cases h;exact DT _ _ g
theorem I5{e:be}{x:ag be}(h:Gz e=ae x):∃p,e= .List x p:=by
 have g:=qr e;unfold Gz at h;cases a:vw e<;>rw[a] at g h<;>cases h;exact⟨_,g⟩
theorem I6{e:be}{i:aF}(h:GB e=ae i):∃k p,e= .Constant (.int i) k p:=by
 have g:=qr e;unfold GB at h;cases a:vw e<;>rw[a] at g h<;>cases h;exact DT _ _ g
theorem Fn{e:be}{x:be×ag jN×jY×gz}(h:vk e=ae x):e= .ListComp x.1 x.2.1 x.2.2.1 x.2.2.2:=by
 have g:=qr e;unfold vk at h;cases a:vw e<;>rw[a] at g h<;>cases h;exact g
theorem I4{e:be}{x:be×be}(h:Gv e=ae x):∃p,e= .Subscript x.1 x.2 p:=by
 have g:=qr e;unfold Gv at h;cases a:vw e<;>rw[a] at g h<;>cases h;exact⟨_,g⟩
theorem Fo{e:be}{x:be×ag be×ag Keyword}(h:sB e=ae x):∃p,e= .Call x.1 x.2.1 x.2.2 p:=by
 have g:=qr e;unfold sB at h;cases a:vw e<;>rw[a] at g h<;>cases h;exact⟨_,g⟩
noncomputable def rz{α:Type}:ag α->av α
 |[a]=>ae a
 |_=>ax
theorem qY{α:Type}{l:ag α}{a:α}(h:rz l=ae a):l=[a]:=by
 match l,h with
 |[_],h=>exact sb (si h) J
section
variable(d:Rd)
noncomputable def Wj(f:be->av E)(g:be)(l:ag be)(h:gz):av E:=(qi f l).bind λi=>match sC g with
 |some (o,b,e)=>ok (sA o&&e.endLine==h.line&&decide (Y7 l<30)) ((f o).bind λj=>match ix d.attrs b with
  |some a=>ok (decide (a<1000)) (ae (.me j a i))
  |none=>(ix HF b).bind λk=>ae (.me j (1000+k) i))
 |none=>(jG g).bind λid=>(d.gl id).bind λv=>ok (!(id==E0)&&zd v) (ae (.ca (.c v) i))
noncomputable def Ti(f:be->av E):av be->av (av E)
 |none=>ae ax
 |some e=>(f e).bind λm=>ae (ae m)
noncomputable def Mr(a:E):ag GL->ag E->av E
 |[],_=>ax
 |op::ops,e=>match e with
  |[]=>ax
  |b::e=>match ops with
   |[]=>ok e.isEmpty (ae (.cj op a b))
   |o2::ops=>match e with
    |[]=>ax
    |c::e=>ok (ops.isEmpty&&e.isEmpty) (ae (.jQ op o2 a b c))
noncomputable def gV:D->be->av E
 |0,_=>ax
 |n+1,e=>match e with
  | .Constant c _ _=>(Bk c).bind λv=>ae (.c v)
  | .Name id _=>d.nm id
  | .Attribute o k _=>ok (sA o) ((gV n o).bind λm=>(ix d.attrs k).bind λa=>ae (.at m a))
  | .Call g h z p=>ok (z.isEmpty&&h.all eJ) (Wj d (gV n) g h p)
  | .BinOp l j r _=>(gV n l).bind λa=>(gV n r).bind λb=>ae (.dy j a b)
  | .UnaryOp j x _=>(gV n x).bind λm=>match j with
   | .USub=>ae (.neg m)
   | .Not=>ae (.lu m)
   |_=>ax
  | .Compare l q s _=>ok (s.getLast?.elim ai nH) ((gV n l).bind λa=>(qi (gV n) s).bind λf=>Mr a q f)
  | .BoolOp j h _=>(qi (gV n) h).bind λf=>ae (match j with| .And=> .du f| .Or=> .jr f)
  | .IfExp t b o _=>(gV n t).bind λx=>(gV n b).bind λy=>(gV n o).bind λw=>ae (.jP x y w)
  | .Tuple h _ _=>ok (h.all eJ) ((qi (gV n) h).bind λf=>ok (decide (Y7 f<=dW)) (ae (.bq f)))
  | .List h _=>ok (h.all eJ) ((qi (gV n) h).bind λf=>ok (decide (Y7 f<=dW)) (ae (.eS f)))
  | .Dict A u _=>ok (A.isEmpty&&u.isEmpty) (ae .QU)
  | .Subscript o i _=>(gV n o).bind λm=>match uO i with
   |some (lo,hi)=>(Ti (gV n) lo).bind λa=>(Ti (gV n) hi).bind λb=>ae (.hO m a b)
   |none=>(gV n i).bind λb=>ae (.sub m b)
  |_=>ax
end
section
variable{z:Z}{d:Rd}
structure qC(z:Z)(d:Rd):Prop where
 aU:z.aU=d.aU
 nm:∀id m pos,d.nm id=ae m->gh z (.Name id pos) m/\v9 z (.Name id pos) m
 gl:∀id v,d.gl id=ae v->z.gl id=ae v
 attrs:∀a s,d.attrs[a]? =ae s->z.G.T.dK a=s
abbrev ww(z:Z)(e:be)(m:E):Prop:=gh z e m/\v9 z e m
theorem gn(F:z.Ok){e:be}{m:E}(b:zg e=am)(x:gh z e m)(a:(wE z.C m).2=λL Q=>(wE z.C m).1 L (xB Q)):ww z e m:=⟨x,KJ F x b a⟩
theorem nt{e:be}{m:E}(x:gh z e m)(b:(wE z.C m).2=λa a a=>bA):ww z e m:=⟨x,λLc H p Q W h k=>by rw[b] at h;exact h.elim⟩
theorem N5(F:z.Ok)(R:qC z d){f:be->av E}(u:∀e m,f e=ae m->ww z e m){g:be}{n:ag be}{b:gz}{m:E}(w:n.all eJ=am)(h:Wj d f g n b=ae m):ww z (.Call g n [] b) m:=by
 refine eA h λC K h=>?_;have i:=AI.es ((lX K).imp λB B h=>(u _ _ h).1);cases r:sC g with
 |some x=>
  obtain rfl:=te r;rw[r] at h;refine jq h λl h=>eA h λH t h=>?_;simp only [aq,bp] at l;have c:∀a,(if a<1000 then z.G.T.dK a else mE a)=x.2.1->ww z (.Call (.Attribute x.1 x.2.1 x.2.2) n [] b) (.me H a C):=λa q=>gn F J (KT F (u _ _ t).1 i q l.1.1 w (I (a6.mp l.1.2) (fW _)) l.2) J;cases o:ix d.attrs x.2.1 with
  |some a=>
   rw[o] at h;exact jq h λj h=>sb (si h) (c a (dG (aa j) (R.attrs _ _ (j6 o))))
  |none=>
   rw[o] at h;exact eA h λk j h=>sb (si h) (c _ (by refine cM (pU.mpr (cH _ _)) ?_;unfold mE;exact I (cV ..) (I (j6 j) J)))
 |none=>
  rw[r] at h;refine eA h λid t A=>eA A λv j y=>jq y λs L=>?_;clear A y;obtain rfl:=si L;obtain⟨p,rfl⟩:=iC t;rw[aq,bc] at s;exact gn F J (KY F (R.gl _ _ j) s.1 s.2 w i) J
theorem GZ{f:be->av E}(a:∀e m,f e=ae m->ww z e m){e:av be}{m:av E}(h:Ti f e=ae m):PR z e m:=by
 induction e with
 |none=>exact sb (si h) Ih
 |some e=>exact eA h λc b h=>sb (si h) (Ig (a _ _ b).1)
theorem HQ(F:z.Ok){l:be}{a m:E}{b:ag GL}{f:ag be}{j:ag E}{p:gz}(x:gh z l a)(i:f.getLast?.elim ai nH=am)(c:AI z f j)(h:Mr a b j=ae m):ww z (.Compare l b f p) m:=by
 cases b with
 |nil=>exact nn h
 |cons n b=>cases c with
  |nil=>exact nn h
  |cons g c=>cases b with
   |nil=>
    refine jq h λe h=>?_;obtain rfl:=si h;cases c with
    |nil=>exact Oy F x g i
    |cons=>exact ft e
   |cons o b=>cases c with
    |nil=>exact nn h
    |cons k c=>
     refine jq h λe h=>?_;obtain rfl:=si h;cases b with
     |cons=>exact ft e
     |nil=>cases c with
      |cons=>exact ft e
      |nil=>exact⟨KW F x g k i,Ia F x g k i⟩
theorem gU(F:z.Ok)(R:qC z d):∀n e m,gV d n e=ae m->ww z e m:=by
 intro n;induction n with
 |zero=>intro e m h;exact nn h
 |succ n j=>
  intro e m h;have B:∀{s A},qi (gV d n) s=ae A->AI z s A/\NK z s A:=λh=>⟨(lX h).imp λE E h=>(j _ _ h).1,(lX h).imp λE E h=>(j _ _ h).2⟩;cases e with
  |Constant c x y=>exact eA (o:=Bk c) h λv f h=>sb (si h) (gn F J (vt F f) J)
  |Name id p=>exact R.nm _ _ _ h
  |Attribute o a p=>
   exact jq (b:=sA o) h λk h=>eA h λN f h=>eA h λS q h=>sb (si h) (gn F J (K1 F (j _ _ f).1 (R.attrs _ _ (j6 q)) k) J)
  |Call g s O p=>
   refine jq (b:=O.isEmpty&&s.all eJ) h λk g=>?_;rw[aq] at k;have e:=dJ.mp k.1;revert k;exact I e λk=>N5 F R j k.2 g
  |BinOp l u r p=>
   exact eA (o:=gV d n l) h λa f h=>eA h λb q h=>sb (si h) (nt (Oz F (j _ _ f).1 (j _ _ q).1) J)
  |UnaryOp u x p=>
   refine eA (o:=gV d n x) h λa f h=>?_;cases u with
   |USub=>exact sb (si h) (nt (Ou F (j _ _ f).1) J)
   |Not=>exact sb (si h) (⟨Ot F (j _ _ f).1,KH (j _ _ f).2⟩)
   |_=>exact nn h
  |Compare l M L p=>
   exact jq (b:=L.getLast?.elim ai nH) h λk h=>eA h λa f h=>eA h λA q h=>HQ F (j _ _ f).1 k ((B q).1) h
  |BoolOp u s p=>
   refine eA (o:=qi (gV d n) s) h λA f h=>cv (B f) λx y=>?_;cases u with
   |And=>exact sb (si h) (⟨Dc F (op:= .And) x,Ao (op:= .And) y⟩)
   |Or=>exact sb (si h) (⟨Dc F (op:= .Or) x,Ao (op:= .Or) y⟩)
  |IfExp t b o p=>
   exact eA (o:=gV d n t) h λx f h=>eA h λy q h=>eA h λw C h=>sb (si h) (⟨Ow (j _ _ f).2 (j _ _ q).1 (j _ _ C).1,KI (j _ _ f).2 (j _ _ q).2 (j _ _ C).2⟩)
  |Tuple s a p=>
   exact jq (b:=s.all eJ) h λk h=>eA h λA f h=>jq h λq h=>sb (si h) (nt (Oq (B f).1 k (aa q)) J)
  |List s p=>
   exact jq (b:=s.all eJ) h λk h=>eA h λA f h=>jq h λq h=>sb (si h) (nt (Ov (B f).1 k (aa q)) J)
  |Dict P K p=>
   refine jq (b:=P.isEmpty&&K.isEmpty) h λk h=>?_;rw[aq] at k;obtain rfl:=dJ.mp k.1;revert h;exact I (dJ.mp k.2) λh=>sb (si h) (nt (Ox F) J)
  |Subscript o i p=>
   refine eA (o:=gV d n o) h λN f h=>?_;cases H:uO i with
   |some x=>
    refine cs (CU H) λQ G=>?_;rcases G with rfl;rw[H] at h;exact eA h λa q h=>eA h λb C h=>sb (si h) (nt (Os F (j _ _ f).1 (GZ j q) (GZ j C)) J)
   |none=>
    rw[H] at h;exact eA h λb q h=>sb (si h) (gn F J (G3 F (j _ _ f).1 (j _ _ q).1) J)
  |_=>exact nn h
end
noncomputable def Bl(a:jY)(x y:bR):aD:=a.kind== .function&&(a.names.all λz=>z.2 != .free&&(z.2 != .cell&&((z.2 != .local||a.names.lookup z.1==ae .local)&& !(z.1==y&&(z.2== .local||z.2== .cell)))))&&a.names.lookup x==ae .local
section
variable{z:Z}
theorem Ec(F:z.Ok){x y:bR}{j:D}{kk:_}{O G Z p0 ps t r:gz}{m:be}{P:E}{s:jY}(hy:z.aU[j]? =ae y)(hs:oj m=am)(T:(x==E0)=ai)(N:Bl s x y=am)(u:(O.line==t.line)=am)(Y:gh z m P):
  sE z (.Assign [.Name y O] (.ListComp (.Subscript (.Name x G) (.Constant (.int 0) kk p0) ps) [⟨.Name x Z,m,[],0⟩] s t) r) (.as (.n j) (.JR P)):=λLc H p Q W ⟨U,h⟩ k=>by
 unfold Bl at N;rw[aq,aq,a6,a6] at N;refine cv N λL hx=>?_;refine cv L λo b=>?_;have b:∀w∈s.names,w.2≠.free/\w.2≠.cell/\(w.2= .local->s.names.lookup w.1=ae .local)/\(w.1==y&&(w.2== .local||w.2== .cell))=ai:=λw l=>by
  have:=aS.mp b w l;rw[aq,aq,aq,tB,tB,hP,tB,a6,bc] at this;exact qG this.1 this.2.1 (λe=>this.2.2.1.resolve_left λn=>n e) this.2.2.2
 refine Ap F (F.ba.symm.trans U) (C:={z.C with call:=λa a a a=>bA,X:=bA}) (aU:=[x]) (gl:=λa=>ax) (f:=λv Q h=>∃y,yw z.C.K h v (.int 0) y/\Q y h) hy J id hs (closureFor_none λw l=>(b w l).1) o (λw l=>(b w l).2.1) (λw l=>(b w l).2.2.1) (jA.mpr λw l=>?_) u Y (λCc ne=>?_) Lc H p Q W h k
 ·have:=(b w l).2.2.2;obtain⟨n,k⟩:=w;exact λh=>BC (this.symm.trans h)
 ·have A:(z.comp s [] Cc [x] (λa=>ax) {z.C with call:=λa a a a=>bA,X:=bA}).Ok:=
   {fV:=F.fV,ko:=F.ko,hv:=F.hv,nm:=F.nm,un:=F.un,hd:=F.hd,sm:=F.sm,ba:=U,iS:=λa a h=>(nomatch h),keep:=λa a h=>(nomatch h),om:=F.om,call:=λa a a a a a a a a h=>h.elim
    en:=⟨o,rfl,λi w l=>(by
     induction i with
     |zero=>exact sb (si l) (lookup_relabel_local hx)
     |succ i=>exact nn l),jm.mpr ⟨fX,List.nodup_nil⟩,F.en.iS,F.en.blt⟩}
  exact⟨A,λLc H p v y Q W S B k=>aM B λw g h=>nC.mk (qX A (i:=0) J) (G3 A (A8 A (i:=0) J T) (vt A (c:= .int 0) (v:= .int 0) J)) Lc H p v y Q W S ⟨v,rfl,w,g,h⟩ k⟩
end
section
variable(d:Rd)
noncomputable def Ji(a:ag bR):av (ag D):=qi (ix d.aU) a
noncomputable def Jh(n:D):be->av T
 | .Name id _=>(ix d.aU id).bind λi=>ae (.n i)
 | .Attribute o a _=>(gV d n o).bind λm=>(ix d.attrs a).bind λa=>ae (.at m a)
 | .Subscript o i _=>(gV d n o).bind λm=>(gV d n i).bind λb=>ae (.su m b)
 | .Tuple e _ _=>(pL e).bind λc=>(Ji d c).bind λf=>ae (.tu f)
 |_=>ax
noncomputable def Wz(c:be×ag jN×jY×gz):av (be×bR):=(rz c.2.1).bind λg=>(Gv c.1).bind λs=>(jG s.1).bind λx=>ok (decide (jG g.target=ae x/\GB s.2=ae 0/\g.is_async=0)&&g.ifs.isEmpty) (ae (g.iter,x))
noncomputable def QQ(a:be):av (bR×be):=(sB a).bind λc=>(jG c.1).bind λid=>(rz c.2.1).bind λe=>ok (c.2.2.isEmpty&&eJ e) (ae (id,e))
noncomputable def Qo(n:D)(t:be)(c:be×ag jN×jY×gz):av S:=
 (jG t).bind λy=>(ix d.aU y).bind λj=>(Wz c).bind λr=>ok (oj r.1&&(!(r.2==E0)&&(Bl c.2.2.1 r.2 y&&t.pos.line==c.2.2.2.line))) ((gV d n r.1).bind λm=>ae (.as (.n j) (.JR m)))
noncomputable def Uj(n:D)(t e:be):av S:=(zo t).bind λb=>(zo e).bind λf=>(pL b).bind λa=>(Ji d a).bind λc=>ok (xE b f&&decide (c.Nodup/\a.Nodup)) ((gV d n e).bind λm=>ae (.as (.tu c) m))
noncomputable def Ni(n:D)(t e:be):av S:=match vk e with
 |some c=>Qo d n t c
 |none=>if xR t e&&kP e then(Jh d n t).bind λa=>(gV d n e).bind λm=>ae (.as a m) else Uj d n t e
noncomputable def Qp(n:D)(t f:be)(e:ag S):av S:=(zo t).bind λb=>(pL b).bind λa=>(Ji d a).bind λg=>(QQ f).bind λc=>ok (decide (d.gl c.1=ae (.ty 7))&& !(c.1==E0)) ((gV d n c.2).bind λm=>match g with
 |[i,j]=>ae (.QP i j m e)
 |_=>ax)
noncomputable def Uk(n:D)(e:be):av S:=(QQ e).bind λc=>ok (decide (d.yg=ae c.1)) ((gV d n c.2).bind λm=>ae (.ra m))
noncomputable def xD:D->gZ->av S
 |0,_=>ax
 |n+1,st=>match st with
  | .Expr e _=>ok (kP e) ((gV d n e).bind λm=>ae (.ex m))
  | .Assign l e _=>(rz l).bind λt=>Ni d n t e
  | .AugAssign t g e _=>ok (zn g) ((gV d n e).bind λm=>match jG t with
   |some id=>(ix d.aU id).bind λi=>ok (!(id==E0)) (ae (.JV i g m))
   |none=>(sC t).bind λx=>(gV d n x.1).bind λh=>(ix d.attrs x.2.1).bind λa=>ae (.v7 h a g m))
  | .If t b o _=>(gV d n t).bind λm=>(qi (xD n) b).bind λf=>(qi (xD n) o).bind λh=>ae (.jC m f h)
  | .While t b o _=>ok o.isEmpty ((gV d n t).bind λm=>(qi (xD n) b).bind λf=>ae (.wh m f))
  | .For t k b o _=>ok o.isEmpty ((qi (xD n) b).bind λf=>match jG t with
   |some x=>(ix d.aU x).bind λj=>ok (oj k) ((gV d n k).bind λm=>ae (.fo j m f))
   |none=>Qp d n t k f)
  | .Return e _=>match e with
   |none=>ae (.re ax)
   |some e=>(gV d n e).bind λm=>ae (.re (ae m))
  | .Break _=>ae .br
  | .Pass _=>ae .pa
  | .Raise e c _=>ok c.isNone (e.bind λe=>Uk d n e)
  |_=>ax
end
section
variable{z:Z}{d:Rd}
theorem FQ(R:qC z d){a:ag bR}{b:ag D}(h:Ji d a=ae b):fe (λi x=>z.aU[i]? =ae x) b a:=by
 have:∀{a b},fe (λx i=>ix d.aU x=ae i) a b->fe (λi x=>z.aU[i]? =ae x) b a:=λh=>by
  induction h with
  |nil=>exact .nil
  |cons h _ c=>exact .cons (I R.aU (j6 h)) c
 exact this (lX h)
theorem C9(F:z.Ok)(R:qC z d){n:D}{t:be}{m:T}(h:Jh d n t=ae m):zK z t m:=by
 cases t with
 |Name id p=>exact eA (o:=ix d.aU id) h λi b h=>sb (si h) (qX F (I R.aU (j6 b)))
 |Attribute o a p=>
  exact eA (o:=gV d n o) h λf b h=>eA h λi c h=>sb (si h) (Kn F (gU F R n _ _ b).1 (R.attrs _ _ (j6 c)))
 |Subscript o i p=>
  exact eA (o:=gV d n o) h λf b h=>eA h λi c h=>sb (si h) (N9 F (gU F R n _ _ b).1 (gU F R n _ _ c).1)
 |Tuple e a p=>
  exact eA (o:=pL e) h λg b h=>eA h λj c h=>sb (si h) (N8 F (Bf b) (FQ R c))
 |_=>exact nn h
theorem Pg{c:be×ag jN×jY×gz}{r:be×bR}(h:Wz c=ae r):∃j k l i f,c.1= .Subscript (.Name r.2 j) (.Constant (.int 0) k l) i/\c.2.1=[⟨.Name r.2 f,r.1,[],0⟩]:=by
 refine eA h λg u h=>eA h λs t h=>eA h λx q h=>jq h λa h=>sb (si h) ?_;rw[aq,bp,dJ] at a;refine cv a λm n=>?_;refine i7 m λa p o=>?_;refine cs (iC q) λj z=>cs (iC a) λf y=>Mm (I6 p) λk l w=>cs (I4 t) λi v=>Qj j k l i (aW f (I v (I z (I w J))) ?_);have e:∀g:jN,g=⟨g.target,g.iter,g.ifs,g.is_async⟩:=λb=>by obtain⟨_,_,_,_⟩:=b;exact J
 have e:=e g;rw[y,o,n] at e;exact(qY u).trans (aL (λg=>[g]) e)
theorem Hp{b:be}{r:bR×be}(h:QQ b=ae r):∃p q,b= .Call (.Name r.1 p) [r.2] [] q/\eJ r.2=am:=by
 refine eA h λc i h=>eA h λid g h=>eA h λe f h=>jq h λa h=>sb (si h) ?_;rw[aq,dJ] at a;exact cs (Fo i) λq k=>cs (iC g) λp j=>dO p q (I k (I j (I (qY f) (I a.1 J)))) a.2
theorem Kk(F:z.Ok)(R:qC z d){n:D}{t:be}{c:be×ag jN×jY×gz}{m:S}{f:gz}(h:Qo d n t c=ae m):sE z (.Assign [t] (.ListComp c.1 c.2.1 c.2.2.1 c.2.2.2) f) m:=by
 refine eA h λy o h=>eA h λj l h=>eA h λr k h=>jq h λa h=>eA h λu i h=>sb (si h) ?_;rw[aq,aq,aq,bc] at a;refine cs (iC o) λp e=>GV (Pg k) λb b b b g=>aM g λb s q=>?_;rw[e] at a⊢;exact I s (I q (Ec F (I R.aU (j6 l)) a.1 a.2.1 a.2.2.1 a.2.2.2 (gU F R n _ _ i).1))
theorem Km(F:z.Ok)(R:qC z d){n:D}{t e:be}{m:S}{i:gz}(h:Ni d n t e=ae m):sE z (.Assign [t] e i) m:=by
 unfold Ni at h;cases k:vk e with
 |some c=>rw[k] at h;exact I (Fn k) (Kk F R h)
 |none=>
  rw[k] at h;by_cases f:(xR t e&&kP e)=am
  ·rw[cw f] at h;refine eA h λA o h=>eA h λr l h=>sb (si h) ?_;rw[aq] at f;exact Op (gU F R n _ _ l).1 (C9 F R o) f.2 f.1
  ·rw[bG f] at h;refine eA h λy o h=>eA h λx l h=>eA h λw v h=>eA h λB u h=>jq h λg h=>eA h λr s h=>?_;obtain rfl:=si h;refine Mm (vF o) λa p j=>?_;rcases j with rfl;obtain⟨b,q,rfl⟩:=vF l;rw[aq,bp] at g;exact Ib F (gU F R n _ _ s).1 (Bf v) g.1 (FQ R u) g.2.1 g.2.2
theorem Kl(F:z.wa)(R:qC z d){n:D}{t j:be}{b:ag gZ}{i:ag S}{m:S}{e:gz}(y:pe z b i)(h:Qp d n t j i=ae m):sE z (.For t j b [] e) m:=by
 refine eA h λE l h=>eA h λC k h=>eA h λH x h=>eA h λc w h=>jq h λf h=>eA h λG v g=>?_;clear h;rw[aq,bp,bc] at f;refine Mm (vF l) λa p o=>cY (Hp w) λq q B u=>I o (I B ?_);have A:=FQ R x;have N:=Bf k;cases A with
 |nil=>exact nn g
 |cons s A=>cases A with
  |nil=>exact nn g
  |cons r A=>cases A with
   |cons=>exact nn g
   |nil=>
    obtain rfl:=si g;cases N with|cons N=>cases N with|cons N=>
    clear l o k h;cases N;exact KQ F s r (R.gl _ _ f.1) f.2 u (gU F.toOk R n _ _ v).1 y
theorem xC(F:z.wa)(R:qC z d)(X:∀id,d.yg=ae id->JF z id):∀n r m,xD d n r=ae m->sE z r m:=by
 have E:=λn e m h=>(gU F.toOk R n e m h).1;intro n;induction n with
 |zero=>intro r m h;exact nn h
 |succ n C=>
  intro r m h;have u:∀{b s},qi (xD d n) b=ae s->pe z b s:=λh=>by
   have:=lX h;clear h;induction this with
   |nil=>exact vq
   |cons h _ i=>exact sR (C _ _ h) i
  cases r with
  |Expr e p=>exact jq (b:=kP e) h λf h=>eA h λm g h=>sb (si h) (Oo F.toOk (E _ _ _ g) f)
  |Assign y e p=>exact eA (o:=rz y) h λt f h=>I (qY f) (Km F.toOk R h)
  |AugAssign t A e p=>
   refine jq (b:=zn A) h λf h=>eA h λm g h=>?_;cases q:jG t with
   |some id=>
    rw[q] at h;refine eA h λi k h=>jq h λl h=>?_;obtain rfl:=si h;obtain⟨p,rfl⟩:=iC q;exact KR F.toOk (I R.aU (j6 k)) (by rw[bc] at l;exact l) f (E _ _ _ g)
   |none=>
    rw[q] at h;exact eA h λx k h=>eA h λB l h=>eA h λa v h=>sb (si h) (I (te k) (KS F.toOk (E _ _ _ l) (R.attrs _ _ (j6 v)) f (E _ _ _ g)))
  |If t b o p=>
   exact eA (o:=gV d n t) h λm f h=>eA h λs g h=>eA h λB k h=>sb (si h) (On (gU F.toOk R n _ _ f).2 (u g) (u k))
  |While t b o p=>
   exact jq (b:=o.isEmpty) h λf h=>eA h λm g h=>eA h λs k h=>sb (si h) (I (dJ.mp f) (Ea F (gU F.toOk R n _ _ g).2 (u k)))
  |For t L b o p=>
   refine jq (b:=o.isEmpty) h λf h=>eA h λs g h=>I (dJ.mp f) ?_;cases q:jG t with
   |some x=>
    rw[q] at h;exact eA h λj k h=>jq h λl h=>eA h λm v h=>sb (si h) (cs (iC q) λp e=>I e (KP F (I R.aU (j6 k)) l (E _ _ _ v) (u g)))
   |none=>rw[q] at h;exact Kl F R (u g) h
  |Return e p=>
   cases e with
   |none=>exact sb (si h) Ic
   |some e=>exact eA (o:=gV d n e) h λm f h=>sb (si h) (KN (E _ _ _ f))
  |Break=>exact sb (si h) Ed
  |Pass=>exact sb (si h) Ie
  |Raise e c p=>
   refine jq (b:=c.isNone) h λf h=>?_;cases e with
   |none=>exact nn h
   |some K=>
   exact eA (o:=QQ K) h λc g h=>jq h λk h=>eA h λm l h=>sb (si h) (cY (Hp g) λw w H G=>I H (I (hJ.mp f) (Eb F.toOk (X _ (aa k)) G (E _ _ _ l))))
  |_=>exact nn h
end
structure Ri(G:Gl)(K:pq)(c i:D):Prop where
 makes:makesIn K (G.T.iB c)=am
 init:tC K (.ref (G.T.iB c)) "__init__"=ae (ae (.ref (G.T.qL i)))
 fn:typeIn K (.ref (G.T.qL i))=ae (.type "function")
noncomputable abbrev Around.tc(A:cG)(c:bk)(a:ag ay):cG:=A.under (.builtin "type.__call__" ⟨.ref c::a,[]⟩)
noncomputable def Z.tc(z:Z)(c:bk)(a:ag ay):Z:={z with A:=Around.tc z.A c a}
section
variable{z:Z}{H:Mi.H}
theorem IY(In:z.K.In z.G.hb){c i:D}(n:Ri z.G z.K c i)(p:P0 z H){g:ag ay}{B:ag V}(W:iD z.G.T p.ρ B g){R:lH->aA->Prop}{Q:P1}{X:Prop}
  (Z:∀(q:P0 (z.tc (z.G.T.iB c) g) (H++[.inst c []])) x,iD z.G.T q.ρ (.ref H.length::B) (x::g)->∀u:lH->aA->Prop,
   (∀v j,v= .none/\Q (.ref H.length) j->∀(d:P0 (z.tc (z.G.T.iB c) g) j) y,L0 q d->d.vr v y->u (.ok (.ret y)) d.s)->(∀e s,PU (z.tc (z.G.T.iB c) g) X e s->u (.error e) s)->
   fG z.cl z.G.M (Around.tc z.A (z.G.T.iB c) g) (.call (.ref (z.G.T.qL i)) ⟨x::g,[]⟩) u q.s)
  (k:∀j,Q (.ref H.length) j->∀(q:P0 z j) y,L0 p q->q.vr (.ref H.length) y->R (.ok (.ret y)) q.s) (S:∀e s,PU z X e s->R (.error e) s):fG z.cl z.G.M z.A (.call (.ref (z.G.T.iB c)) ⟨g,[]⟩) R p.s:=by
 have t:=In.keeps p.gB.keep;refine CR (w:=z.G.w) (makes_of t n.makes) (looks_findIn t n.init) (λm=>bind_fn t m n.fn) (by simp) ?_;have L:∀b o,p.h.get? b=ae o->((p.h.push sK).push (vp (z.G.T.iB c) p.h.objs.size)).get? b=ae o:=λb o e=>aN _ (aN _ e);have O:((p.h.push sK).push (vp (z.G.T.iB c) p.h.objs.size)).get? (p.h.objs.size+1)=ae (vp (z.G.T.iB c) p.h.objs.size):=by
  have:=bJ (p.h.push sK) (o:=vp (z.G.T.iB c) p.h.objs.size) J
  rwa [gA] at this
 have N:((p.h.push sK).push (vp (z.G.T.iB c) p.h.objs.size)).get? p.h.objs.size=ae sK:=aN _ (bJ _ rfl);have F:p.h.get? p.h.objs.size=ax:=cz (aE _);have E:p.h.get? (p.h.objs.size+1)=ax:=cz (dR _);have w:OR z.G.T (p.ρ++[(p.h.objs.size+1,p.h.objs.size)]) ((p.h.push sK).push (vp (z.G.T.iB c) p.h.objs.size)) (p.h.objs.size+1) p.h.objs.size (.inst c []):=
  ⟨Xb _,O,#[],0,N,.nil,by simp⟩;have P:=Fm.push iN p.ρ (λb o x_=>L b o) E F;let f:=p.new p.tk L E F ⟨_,O⟩ ⟨_,N⟩ w;have C:VR z.G.T f.ρ (.ref H.length) (.ref (p.h.objs.size+1)):=p.Dl;let q:P0 (z.tc (z.G.T.iB c) g) (H++[.inst c []]):=⟨f.h,f.tk,f.ρ,f.gB,⟨f.jO.fr,f.jO.qJ,f.jO.nl,f.jO.x,f.jO.xM⟩⟩;refine Z q _ (.cons C (W.fH (Sub.append _ _))) _ (λv j ⟨e,h⟩ d y l r=>?_) λe s ⟨a,h,tk,e1,e2,⟨fs,a0,Y,x⟩,U⟩=>?_
 ·revert r;exact I e λr=>I (r) (⟨rfl,k j h ⟨d.h,d.tk,d.ρ,d.gB,⟨d.jO.fr,d.jO.qJ,d.jO.nl,d.jO.x,d.jO.xM⟩⟩ _ (Fm.trans P (λb o=>(q.gB.new b (yB P.sub o)).2) l λb e=>e.elim) (C.fH l.sub)⟩)
 ·exact S e s (uR a h tk e1 e2 (dO fs a0 Y x) U)
end
structure Txt where
 P:JG
 aU:D->ag bR
 gl:ag (bR×V)
 attrs:ag bR
 yg:bR
noncomputable def B5(gl:ag (bR×V))(a:jY)(id:bR):av V:=ok (a.names.lookup id==ae .globalImplicit) (gl.lookup id)
noncomputable def BZ(a:ag bR)(gl:bR->av V)(id:bR):av E:=ok (!(id==E0)) (match ix a id with
 |some i=>ae (.l i)
 |none=>(gl id).bind λv=>ae (.c v))
noncomputable def Txt.rd(X:Txt)(i:D)(a:jY):Rd:=⟨X.aU i,B5 X.gl a,X.attrs,BZ (X.aU i) (B5 X.gl a),ok (a.names.lookup X.yg==ae .globalImplicit) (ae X.yg)⟩
structure m6(G:Gl)(K:pq)(X:Txt):Prop where
 fV:FA G K X.P.fld X.P.fI
 ko:Fw G X.P.K
 hv:yx G
 nm:DG G.T
 sm:∃o,G.hb.get? rI=ae o
 dW:G.hb.NoLimit
 attrs:∀a s,X.attrs[a]? =ae s->G.T.dK a=s
 fn:∀i fi,X.P.fn i=ae fi->∃fd body,rF G i fi (X.aU i) fd body/\qi (xD (X.rd i fd.scope) 40) body=ae fi.body
 iS:∀id v,X.gl.lookup id=ae v->HJ G id v
 keep:∀id v,X.gl.lookup id=ae v->zd v=am->keeps G K v
 om:∀c a f,X.P.fI c a=ae f->Bt K (.ref (G.T.qL f))=am
 Jr:∀c i ds,X.P.init c=ae (i,ds)->Ri G K c i
 dflt:∀c i ds fi fd body,X.P.init c=ae (i,ds)->X.P.fn i=ae fi->rF G i fi (X.aU i) fd body->ds=[]\/∃T o vs n,fd.defaults= .ref T/\G.hb.get? T=ae o/\o.data= .seq vs n/\iD G.T [] ds vs.toList/\vs.size<=fi.np
 yg:sG G K
 Dy:∃mg,G.hb.Ns eQ mg/\mg X.yg=ae (.ref G.X₀)
 Dx:Bt K (.ref G.X₀)=am
 Hr:(X.yg==E0)=ai
 M4:∃fi fd body,rF G 1 fi ["self","value"] fd body/\fi.np=2/\rE body
structure Rm(A:cG)(n:D):Prop where
 Py:A.depth+n+5<nM
 un:A.units+8*n+200<cLine
 hd:A.handled=ax
theorem Rm.deeper{A:cG}{n:D}(a:rP)(R:Rm A (n+1)):Rm (A.deeper a) n:=⟨by refine(?_ :A.depth+1+n+5<_);exact gC 0xd82a0da01a0902f0a8368a09040 J R.Py,by refine(?_ :A.units+3+8*n+200<_);exact gC 0xd82a20528a414282c0bc2a20528a68241400 J R.un,R.hd⟩
theorem Rm.tc{A:cG}{n:D}(c:bk)(a:ag ay)(R:Rm A (n+1)):Rm (Around.tc A c a) n:=⟨by refine(?_ :A.depth+1+n+5<_);exact gC 0xd82a0da01a0902f0a8368a09040 J R.Py,by refine(?_ :A.units+1+8*n+200<_);exact gC 0xd82a20528a41428240bc2a20528a68241400 J R.un,R.hd⟩
def jI(X:Txt)(W:Prop)(ba:aD)(n:D):Prop:=∀(z:Z),m6 z.G z.K X->ba=z.cl->Rm z.A n->∀{H} (p:P0 z H) (v:V) (b:ag V) (x:ay) (a:ag ay) (Q:P1) (R:lH->aA->Prop),p.vr v x->iD z.G.T p.ρ b a->X.P.call ba W n v b Q H->
 (∀v c,Q v c->∀(q:P0 z c) y,L0 p q->q.vr v y->R (.ok (.ret y)) q.s)->(∀e s,PU z W e s->R (.error e) s)->fG z.cl z.G.M z.A (.call x ⟨a,[]⟩) R p.s
theorem jI.call{X:Txt}{W:Prop}{ba:aD}{n:D}(S:jI X W ba n){z:Z}(T:m6 z.G z.K X)(j:ba=z.cl)(R:Rm z.A n)(m:z.C.X=W){Lc:bS}{H:Mi.H}(p:Pt z Lc H)(v:V)(f:ag V)(x:ay)(d:ag ay)(Q:P1)(U:ay->aA->Prop)(i:p.vr v x)(g:iD z.G.T p.ρ f d)
  (h:X.P.call ba W n v f Q H) (k:∀v b,Q v b->p.To U v b):z.wp (cX x d) U p.s:=
 lB (S z T j R p.toP0 v f x d Q _ i g h (λv b h q y l r=>k v b h (p.at q l) y l.le r) λe s c=>DU c λa h tk t o x w=>(uR a h tk t o (x.body z.L am) (m▸w)))
section
variable{X:Txt}{W:Prop}{ba:aD}
theorem O3{z:Z}(T:m6 z.G z.K X)(f:ba=z.cl){n:D}(S:jI X W ba n){i:D}{j:FI}{c:gQ}{d:ag gZ}(F:rF z.G i j (X.aU i) c d)(R:Rm z.A (n+1))(L:bk)(g:∃e,z.A.frames=ae e):
  (z.sub c (z.G.T.qL i) L (X.aU i) (B5 X.gl c.scope) ⟨X.P.K,X.P.fld,X.P.fI,X.P.call ba W n,W,ba⟩).wa where
 fV:=T.fV
 ko:=T.ko
 hv:=T.hv
 nm:=T.nm
 en:=F.aJ L
 un:=by refine(?_ :z.A.units+3+100<_);exact gC 0xd82a1c3a82c0bc2a20528a68241400 J R.un
 hd:=R.hd
 ba:=f
 sm:=T.sm
 iS id v h:=jq h λa b=>⟨a6.mp a,T.iS id v b⟩
 keep id v h hc:=T.keep id v (BX h).2 hc
 om:=T.om
 call:= @jI.call X W ba n S (z.sub c (z.G.T.qL i) L (X.aU i) (B5 X.gl c.scope) ⟨X.P.K,X.P.fld,X.P.fI,X.P.call ba W n,W,ba⟩) T f (R.deeper _) J
 fr:=cs g λe h=>⟨e,zS h⟩
 ye:=rfl
theorem RQ{z:Z}(F:z.Ok){i:D}{sc:jY}(d:z.aU=X.aU i)(e:z.gl=B5 X.gl sc)(f:∀a s,X.attrs[a]? =ae s->z.G.T.dK a=s):qC z (X.rd i sc) where
 aU:=d
 gl id v h:=I e h
 attrs:=f
 nm id m pos h:=by
  refine jq h λc h=>?_;rw[bc] at c;cases b:ix (X.aU i) id with
  |some j=>rw[b] at h;exact sb (si h) (gn F J (A8 F (I d (j6 b)) c) J)
  |none=>
   rw[b] at h;exact eA h λv g h=>sb (si h) (gn F J (pK F (I e g) c) J)
theorem yL{n:D}(S:jI X W ba n){z:Z}(T:m6 z.G z.K X)(C:ba=z.cl)(l:Rm z.A (n+1)){i:D}{H:Mi.H}(p:P0 z H){vs:ag V}{xs a:ag ay}(x:iD z.G.T p.ρ vs xs){Q:P1}{R:lH->aA->Prop}
  (f:∀c g b,X.P.fn i=ae c->rF z.G i c (X.aU i) g b->Y7 vs=c.np->GN p.s g ⟨a,[]⟩ (((X.aU i).take c.np).zip xs)) (h:X.P.call ba W (n+1) (.fn i) vs Q H)
  (k:∀v o,Q v o->∀(q:P0 z o) y,L0 p q->q.vr v y->R (.ok (.ret y)) q.s) (u:∀e s,PU z W e s->R (.error e) s):fG z.cl z.G.M z.A (.call (.ref (z.G.T.qL i)) ⟨a,[]⟩) R p.s:=by
 refine aM h λ_ _ _=>?_;rename_i c j h;refine cY (T.fn i c j) λg b F m=>LW F T.dW p (gC 0xd8202f0a8368a09040 J l.Py) x (f c g b j F h.1) (gl:=B5 X.gl g.scope) ?_ h k u;have O:=O3 (W:=W) T C S F l p.h.objs.size (aM p.jO.fr λL h U=>⟨L,h⟩);have A:=lX m;clear m h F;generalize c.body=ms at A;induction A with
 |nil=>exact vq
 |cons h _ w=>
  refine sR (xC O (RQ O.toOk (i:=i) (sc:=g.scope) J J T.attrs) (λid d=>?_) 40 _ _ h) w;exact jq d λe d=>sb (si d) (GW T.M4 λY d1 b1 N t r=>⟨a6.mp e,T.Dy,T.Dx,T.yg,T.Hr,λs z Q E B h=>I0 T.fV.In T.yg N t r T.dW B (by refine(?_ :_+1+1<_);exact gC 0xd82a09a0902f0a8368a09040 J l.Py) h⟩)
theorem Jk:∀n,jI X W ba n/\jI X W ba (n+1):=by
 have t:∀n,jI X W ba n->(∀m,n=m+1->jI X W ba m)->jI X W ba (n+1):=λn S S' z T P Z H p v C x b Q R Y d h k K=>by
  induction v with
  |fn i=>
   exact I (Y) (yL S T P Z p d (λs fd u U F e=>F.oy p.gB.keep (d.length.trans e)) h k K)
  |cls c=>
   refine cY h λ_ _ _ _=>?_;clear h;rename_i i ds hi h;refine I (Y) (IY T.fV.In (T.Jr c i ds hi) p d (Q:=Q) (X:=W) (λq x V R' k K=>?_) (λH' h q y l r=>k _ _ h q y l r) K);induction n with
   |zero=>exact h.elim
   |succ m=>
    have Sm:=S' m J;have Rt:=Rm.tc (z.G.T.iB c) b Z;refine aM h λs f h'=>?_;clear h;refine cY (T.fn i s f) λaf B F0 U=>?_;rcases T.dflt c i ds s af B hi f F0 with rfl|⟨Ta,o,dv,nn,e1,e2,e3,e4,e5⟩
    ·refine yL (z:=z.tc (z.G.T.iB c) b) Sm T P Rt q (vs:= .ref H.length::(C++[])) (xs:=x::b) (I (bz ..) V) (λs fd u U F e=>F.oy q.gB.keep (I (aQ e) (I (bz ..) (I V.length J)))) (aW s f h') k K
    ·have hl:=e4.length;have hn:=h'.1;rw[bY] at hl;rw[bv,au] at hn;have L:=V.length;rw[bv,bv] at L;refine yL (z:=z.tc (z.G.T.iB c) b) Sm T P Rt q (vs:= .ref H.length::(C++ds)) (xs:=x::(b++dv.toList)) (V.append (e4.imp λU U h=>h.fH λn p e=>by cases e)) (λaj fd u a F e=>?_) (aW s f h') k K;rw[f] at a;first|exact nn a|exact ft a|clear e;cases a
     refine aM F.at_ λo1 w O=>aM F0.at_ λo2 N j=>?_;have w:z.G.hb.get? (z.G.T.qL i)=ae o1:=w;rw[w] at N;revert j;refine sb (si N) λj=>?_;rw[O] at j;clear O;cases j;exact Fd F.mH (vals:=x::b) (o:=ae dv) (by refine I bv (I (show((X.aU i).take s.np).length=s.np by refine I bE (I F0.len ?_);have:=F0.le;exact Y5 this) (?_ :b.length+1+dv.size=s.np));exact Wt 0x370e8028244c28242a09134c03a09a010b4c01034 J hl hn L) λM A E Q g=>I e1 (wpAny_seqItems (q.gB.keep _ _ e2) e3 g)
  |_=>exact h.elim
 intro n;induction n with
 |zero=>exact⟨λz T P Z H p v C x b Q R Y d h=>h.elim,t 0 (λz T P Z H p v C x b Q R Y d h=>h.elim) λm e=>nomatch e⟩
 |succ n ih=>exact⟨ih.2,t (n+1) ih.2 λm e=>by cases e;exact ih.1⟩
end
end Mi
end
set_option tactic.hygienic true
section
namespace Mi
open PySem (CmpOp)
namespace B
noncomputable abbrev a:E:= .l 0
noncomputable abbrev b:E:= .l 1
noncomputable abbrev c:E:= .l 2
noncomputable abbrev d:E:= .l 3
noncomputable abbrev e:E:= .l 4
noncomputable abbrev f:E:= .l 5
noncomputable abbrev g:E:= .l 6
noncomputable abbrev h:E:= .l 7
noncomputable abbrev j:E:= .l 8
noncomputable abbrev k:E:= .l 9
noncomputable abbrev i(n:aF):E:= .c (.int n)
noncomputable abbrev s(n:ag D):E:= .c (.str n)
noncomputable abbrev y(n:ag D):E:= .c (.bytes n)
noncomputable abbrev n:E:= .c .none
noncomputable abbrev t:E:= .c (.bool am)
noncomputable abbrev u:E:= .c (.bool ai)
noncomputable abbrev F(k:D)(x:ag E):E:= .ca (.c (.fn k)) x
noncomputable abbrev B(k:D)(x:ag E):E:= .ca (.c (.bi k)) x
noncomputable abbrev C(k:D)(x:ag E):E:= .ca (.c (.cls k)) x
noncomputable abbrev Y(k:D)(x:ag E):E:= .ca (.c (.ty k)) x
noncomputable abbrev m(k:D)(x:ag E):E:= .me (.l 0) k x
noncomputable abbrev M(e:E)(k:D)(x:ag E):E:= .me e k x
noncomputable abbrev o(k:D):E:= .at (.l 0) k
noncomputable abbrev p(e:E)(k:D):E:= .at e k
noncomputable abbrev q(a b:E):E:= .cj .Eq a b
noncomputable abbrev N(a b:E):E:= .cj .In a b
noncomputable abbrev x(o:CmpOp)(a b:E):E:= .cj o a b
noncomputable abbrev A(a b:E):E:= .dy .Add a b
noncomputable abbrev G(a b:E):E:= .dy .Sub a b
noncomputable abbrev X(a b:E):E:= .sub a b
noncomputable abbrev R(e:E):S:= .re (ae e)
noncomputable abbrev K(e:E)(t:ag S):S:= .jC e t []
noncomputable abbrev L(x:ag E):E:= .eS x
noncomputable abbrev z:E:= .eS []
noncomputable abbrev U(x:ag E):E:= .bq x
noncomputable abbrev W(k:D)(e:E):S:= .as (.n k) e
noncomputable abbrev w(k:D)(e:E):S:= .as (.at (.l 0) k) e
end B
open B
noncomputable def b0:ag S:=[w 0 b,w 1 c,w 2 d,w 3 e,w 4 f,w 5 g,w 6 h,w 7 j,w 8 k,w 9 (.l 10)]
noncomputable def b1:ag S:=[w 10 b,w 11 z]
noncomputable def b2:ag S:=[R (.du [B 1 [a,.c (.ty 1)],.lu (B 1 [a,.c (.ty 2)])])]
noncomputable def b3:ag S:=[W 2 (.dy .BitAnd a (G (.dy .LShift (i 1) b) (i 1))),K (x .GtE c (.dy .LShift (i 1) (G b (i 1)))) [R (G c (.dy .LShift (i 1) b))],R c]
noncomputable def b4:ag S:=[R (N a (y [32,9,10,11,12,13]))]
noncomputable def b5:ag S:=[K (.jQ .LtE .LtE (i 48) a (i 57)) [R (G a (i 48))],K (.jQ .LtE .LtE (i 97) a (i 122)) [R (G a (i 87))],K (.jQ .LtE .LtE (i 65) a (i 90)) [R (G a (i 55))],R (.neg (i 1))]
noncomputable def b6:ag S:=[W 3 (i 0),.wh (x .Lt b (B 0 [a])) [W 4 (F 5 [X a b]),K (.jr [x .Lt e (i 0),x .GtE e c]) [.br],W 3 (A (.dy .Mult d c) e),W 1 (A b (i 1))],R (U [d,b])]
noncomputable def b7:ag S:=[.wh (.du [x .Lt b (B 0 [a]),F 4 [X a b]]) [W 1 (A b (i 1))],R b]
noncomputable def b8:ag S:=[R (F 9 [a,i 0,b])]
noncomputable def b9:ag S:=[.as (.tu [3,4]) (U [F 7 [a,i 0],u]),K (.du [x .Lt d (B 0 [a]),N (X a d) (y [43,45])]) [W 4 (q (X a d) (i 45)),W 3 (A d (i 1))],W 5 (.du [x .Lt (A d (i 2)) (B 0 [a]),q (X a d) (i 48),N (X a (A d (i 1))) (y [120,88]),N b (U [i 0,i 16])]),K (.du [f,.jQ .LtE .Lt (i 0) (F 5 [X a (A d (i 2))]) (i 16)]) [.as (.tu [3,1]) (U [A d (i 2),i 16])],.as (.tu [6,7]) (F 6 [a,d,.jP (q b (i 0)) (i 10) b]),K (.jr [q h d,x .NotEq (F 7 [a,h]) (B 0 [a])]) [R n],R (F 3 [.jP e (.neg g) g,p c 0])]
noncomputable def YX:ag S:=[.as (.tu [1,2]) (U [B 2 [a],z]),.wh (x .Gt b (i 9)) [.ex (M c 1000 [A (i 48) (.dy .Mod b (i 10))]),W 1 (.dy .FloorDiv b (i 10))],.ex (M c 1000 [A (i 48) b]),K (x .Lt a (i 0)) [.ex (M c 1000 [i 45])],.ex (M c 1002 []),R (Y 3 [c])]
noncomputable def YW:ag S:=[K (B 1 [a,.c (.ty 3)]) [R a],K (F 2 [a]) [R (F 10 [a])],R n]
noncomputable def YV:ag S:=[W 1 (i 0),.wh (.du [x .Lt b (B 0 [a]),x .NotEq (X a b) (i 0)]) [W 1 (A b (i 1))],R (.hO a ax (ae b))]
noncomputable def YU:ag S:=[W 1 (i 0),.wh (.du [x .Lt b (B 0 [a]),x .NotEq (X a b) (i 10),x .NotEq (X a b) (i 13)]) [W 1 (A b (i 1))],R (.hO a ax (ae b))]
noncomputable def YT:ag S:=[W 0 (F 12 [a]),K (q (.hO a ax (ae (i 1))) (y [61])) [R (.hO a (ae (i 1)) (ae b))],K (q (.hO a ax (ae (i 1))) (y [64])) [.as (.tu [2,3]) (U [B 3 [G b (i 8),i 0],.hO a (ae (i 1)) ax]),R (.jP (x .Gt (B 0 [d]) c) (A (y [46,46,46]) (.hO d (ae (G (B 0 [d]) c)) ax)) d)],.as (.tu [4,2]) (U [F 13 [a],B 3 [G b (i 17),i 0]]),K (x .Gt (B 0 [e]) c) [W 4 (.hO e ax (ae c))],K (x .Lt (B 0 [e]) (B 0 [a])) [W 4 (A e (y [46,46,46]))],R (A (A (y [91,115,116,114,105,110,103,32,34]) e) (y [34,93]))]
noncomputable def YS:ag S:=[R (.jQ .LtE .LtE (i 48) a (i 57))]
noncomputable def YR:ag S:=[R (.jr [.jQ .LtE .LtE (i 65) a (i 90),.jQ .LtE .LtE (i 97) a (i 122),q a (i 95)])]
noncomputable def YQ:ag S:=[R (.jr [F 16 [a],F 15 [a]])]
noncomputable def YO:ag S:=[R (.jr [q a (i 32),.jQ .LtE .LtE (i 9) a (i 13)])]
noncomputable def YN:ag S:=[R (.jr [.jQ .LtE .Lt (i 0) a (i 32),q a (i 127)])]
noncomputable def YM:ag S:=[R (N a (U [i 10,i 13]))]
noncomputable def WT:ag S:=[W 0 .QU,.QP 1 2 (.c (.aV 0)) [.as (.su a c) (A (i 257) b)],R a]
noncomputable def YL:ag S:=[K (x .Lt a (i 257)) [K (F 19 [a]) [R (A (A (y [99,104,97,114,40]) (F 11 [a])) (y [41]))],R (Y 3 [L [a]])],W 1 (G a (i 257)),R (.jP (x .Lt b (B 0 [.c (.aV 0)])) (X (.c (.aV 0)) b) (X (.c (.aV 1)) (G b (B 0 [.c (.aV 0)]))))]
noncomputable def YK:ag S:=[w 12 b,w 10 c]
noncomputable def YJ:ag S:=[w 9 b,w 13 c,w 14 (F 14 [c,i 80]),w 15 d,w 16 (F 21 []),w 17 (i 0),w 18 (.jP (x .Gt (B 0 [b]) (i 0)) (X b (i 0)) (i (-1))),w 19 (i 1),w 20 (i 1),w 21 (Y 5 []),w 22 (C 3 [i 287,n]),w 23 n]
noncomputable def YI:ag S:=[w 20 (o 19),.jC (x .IsNot (o 23) n) [w 22 (o 23),w 23 n] [w 22 (m 24 [])],R (o 22)]
noncomputable def YH:ag S:=[K (x .Is (o 23) n) [w 23 (m 24 [])],R (o 23)]
noncomputable def YG:ag S:=[W 3 (A (A (A (A (o 14) (y [58])) (F 11 [o 19])) (y [58,32])) b),K (x .IsNot c n) [W 3 (A (A (A d (y [32,110,101,97,114,32,39])) (m 25 [c])) (y [39]))],.ra d]
noncomputable def YF:ag S:=[K (N b (U [i 285,i 286,i 284])) [R (Y 3 [o 21])],R (F 22 [b])]
noncomputable def YE:ag S:=[.v7 a 17 .Add (i 1),w 18 (.jP (x .Lt (o 17) (B 0 [o 9])) (X (o 9) (o 17)) (i (-1)))]
noncomputable def YD:ag S:=[K (x .GtE (B 0 [o 21]) (p (o 15) 9)) [.ex (m 26 [y [108,101,120,105,99,97,108,32,101,108,101,109,101,110,116,32,116,111,111,32,108,111,110,103],n])],.ex (M (o 21) 1000 [b])]
noncomputable def YC:ag S:=[.ex (m 27 [o 18]),.ex (m 28 [])]
noncomputable def YB:ag S:=[K (x .NotIn (o 18) b) [R u],.ex (m 29 []),R t]
noncomputable def YA:ag S:=[w 21 (Y 5 [])]
noncomputable def Yz:ag S:=[W 1 (o 18),.ex (m 28 []),K (.du [F 20 [o 18],x .NotEq (o 18) b]) [.ex (m 28 [])],.v7 a 19 .Add (i 1),K (x .GtE (o 19) (i 2147483645)) [.ex (m 30 [y [99,104,117,110,107,32,104,97,115,32,116,111,111,32,109,97,110,121,32,108,105,110,101,115]])]]
noncomputable def Yy:ag S:=[.ex (m 26 [b,p (o 22) 12])]
noncomputable def xf:ag S:=[.ex (m 31 []),.wh (m 32 []) [.pa],W 1 (o 18),K (q b (i (-1))) [R (C 3 [i 287,n])],K (N b (U [i 34,i 39])) [R (m 33 [b])],K (q b (i 91)) [R (m 34 [])],K (q b (i 46)) [R (m 35 [])],K (F 15 [b]) [R (m 36 [])],K (F 16 [b]) [R (m 37 [])],K (q b (i 45)) [.ex (m 28 []),R (C 3 [i 45,n])],K (N b (U [i 61,i 60,i 62,i 126])) [R (m 38 [b])],.ex (m 28 []),R (C 3 [b,n])]
noncomputable def Yx:ag S:=[K (F 20 [o 18]) [.ex (m 39 []),R t],K (F 18 [o 18]) [.ex (m 28 []),R t],K (.du [q (o 18) (i 45),q (m 40 []) (i 45)]) [.ex (m 41 []),R t],R u]
noncomputable def Yw:ag S:=[R (.jP (x .Lt (A (o 17) (i 1)) (B 0 [o 9])) (X (o 9) (A (o 17) (i 1))) (i (-1)))]
noncomputable def WS:ag S:=[.ex (m 28 []),K (x .NotEq (o 18) (i 61)) [R (C 3 [b,n])],.ex (m 28 []),K (q b (i 61)) [R (C 3 [i 280,n])],K (q b (i 60)) [R (C 3 [i 282,n])],R (C 3 [.jP (q b (i 62)) (i 281) (i 283),n])]
noncomputable def Yv:ag S:=[.ex (m 29 []),K (m 42 [U [i 46]]) [K (m 42 [U [i 46]]) [R (C 3 [i 279,n])],R (C 3 [i 278,n])],K (F 15 [o 18]) [R (m 36 [])],R (C 3 [i 46,n])]
noncomputable def Yu:ag S:=[.wh (F 17 [o 18]) [.ex (m 29 [])],W 1 (Y 3 [o 21]),W 2 (M (o 16) 1003 [b]),R (.jP (x .Is c n) (C 3 [i 285,b]) (C 3 [c,n]))]
noncomputable def Yt:ag S:=[.wh (.jr [F 15 [o 18],q (o 18) (i 46)]) [.ex (m 29 [])],K (m 42 [U [i 69,i 101]]) [.ex (m 42 [U [i 43,i 45]])],.wh (F 17 [o 18]) [.ex (m 29 [])],W 1 (F 8 [Y 3 [o 21],o 15]),K (x .Is b n) [.ex (m 26 [y [109,97,108,102,111,114,109,101,100,32,110,117,109,98,101,114],i 284])],R (C 3 [i 284,b])]
noncomputable def Ys:ag S:=[W 1 (m 43 []),K (x .GtE b (i 0)) [R (C 3 [i 286,m 44 [b,t]])],K (x .Lt b (.neg (i 1))) [.ex (m 26 [y [105,110,118,97,108,105,100,32,108,111,110,103,32,115,116,114,105,110,103,32,100,101,108,105,109,105,116,101,114],i 286])],R (C 3 [i 91,n])]
noncomputable def Yr:ag S:=[W 1 (o 18),W 2 (i 0),.ex (m 29 []),.wh (q (o 18) (i 61)) [.ex (m 29 []),.JV 2 .Add (i 1)],R (.jP (q (o 18) b) c (G (.neg c) (i 1)))]
noncomputable def Yq:ag S:=[.ex (m 29 []),.wh (x .NotEq (o 18) b) [.jC (q (o 18) (i (-1))) [.ex (m 26 [y [117,110,102,105,110,105,115,104,101,100,32,115,116,114,105,110,103],i 287])] [.jC (F 20 [o 18]) [.ex (m 26 [y [117,110,102,105,110,105,115,104,101,100,32,115,116,114,105,110,103],i 286])] [.jC (q (o 18) (i 92)) [.ex (m 28 []),.ex (m 45 [])] [.ex (m 29 [])]]]],.ex (m 29 []),R (C 3 [i 286,Y 3 [.hO (o 21) (ae (i 1)) (ae (G (B 0 [o 21]) (i 1)))]])]
noncomputable def Yo:ag S:=[w 12 b,w 19 c,w 46 d]
noncomputable def Yn:ag S:=[w 47 b,w 19 c,w 48 z,w 49 (i 0),w 50 z,w 51 u,w 52 u]
noncomputable def Ym:ag S:=[W 2 (G (B 0 [o 48]) (i 1)),.wh (x .GtE c (i 0)) [K (q (X (X (o 48) c) (i 0)) b) [R (X (X (o 48) c) (i 1))],.JV 2 .Sub (i 1)],R n]
noncomputable def Yl:ag S:=[w 15 d,w 53 (C 4 [b,c,d]),w 54 n,w 55 (i 0),w 56 (i 0)]
noncomputable def Yk:ag S:=[R (p (p (o 53) 22) 12)]
noncomputable def Yj:ag S:=[.ex (M (o 53) 26 [b,m 57 []])]
noncomputable def Yi:ag S:=[.ex (m 58 [A (A (y [39]) (F 22 [b])) (y [39,32,101,120,112,101,99,116,101,100])])]
noncomputable def Yh:ag S:=[W 3 (p (o 54) 19),W 4 (.jP (q d (i 0)) (y [109,97,105,110,32,102,117,110,99,116,105,111,110]) (A (y [102,117,110,99,116,105,111,110,32,97,116,32,108,105,110,101,32]) (F 66 [d]))),.ex (M (o 53) 26 [A (A (A (A e (y [32,104,97,115,32,109,111,114,101,32,116,104,97,110,32])) (F 66 [b])) (y [32])) c,n])]
noncomputable def Yg:ag S:=[K (x .NotEq (m 57 []) b) [R u],.ex (M (o 53) 59 []),R t]
noncomputable def Ye:ag S:=[K (x .NotEq (m 57 []) b) [.ex (m 60 [b])]]
noncomputable def Yd:ag S:=[.ex (m 61 [b]),.ex (M (o 53) 59 [])]
noncomputable def Yc:ag S:=[K (m 62 [b]) [.re ax],K (q d (p (o 53) 19)) [.ex (m 60 [b])],W 4 (F 22 [c]),.ex (m 58 [A (A (A (A (A (A (y [39]) (F 22 [b])) (y [39,32,101,120,112,101,99,116,101,100,32,40,116,111,32,99,108,111,115,101,32,39])) e) (y [39,32,97,116,32,108,105,110,101,32])) (F 66 [d])) (y [41])])]
noncomputable def Yb:ag S:=[.ex (m 61 [i 285]),W 1 (p (p (o 53) 22) 10),.ex (M (o 53) 59 []),R b]
noncomputable def X9:ag S:=[.v7 a 55 .Add (i 1),K (x .Gt (o 55) (p (o 15) 4)) [.ex (M (o 53) 26 [y [99,104,117,110,107,32,104,97,115,32,116,111,111,32,109,97,110,121,32,115,121,110,116,97,120,32,108,101,118,101,108,115],n])]]
noncomputable def X8:ag S:=[.v7 a 55 .Sub (i 1)]
noncomputable def WR:ag S:=[W 2 z,.fo 3 b [K (x .GtE (B 0 [p (o 54) 48]) (p (o 15) 3)) [.ex (m 63 [p (o 15) 3,y [108,111,99,97,108,32,118,97,114,105,97,98,108,101,115]])],.ex (M c 1000 [U [d,o 56]]),.ex (M (p (o 54) 48) 1000 [U [d,o 56]]),.v7 a 56 .Add (i 1)],R c]
noncomputable def X7:ag S:=[K (x .Gt (A (B 0 [p (o 54) 48]) b) (p (o 15) 3)) [.ex (m 63 [p (o 15) 3,y [108,111,99,97,108,32,118,97,114,105,97,98,108,101,115]])]]
noncomputable def X6:ag S:=[.as (.at (o 54) 48) (.hO (p (o 54) 48) ax (ae b))]
noncomputable def X5:ag S:=[.as (.tu [3,4]) (U [z,o 54]),.wh (x .IsNot e n) [W 5 (M e 64 [b]),K (x .IsNot f n) [.ex (m 65 [d,f]),R (C 5 [s [108,111,99,97,108],c,L [b,f]])],.ex (M d 1000 [e]),W 4 (p e 47)],R (C 5 [s [103,108,111,98,97,108],c,L [b]])]
noncomputable def X4:ag S:=[W 3 (o 54),W 4 (G (B 0 [b]) (i 1)),.wh (x .GtE e (i 0)) [K (x .NotIn c (p (X b e) 50)) [K (x .GtE (B 0 [p (X b e) 50]) (p (o 15) 2)) [w 54 (X b e),.ex (m 63 [p (o 15) 2,y [117,112,118,97,108,117,101,115]])],.ex (M (p (X b e) 50) 1000 [c])],.JV 4 .Sub (i 1)],w 54 d]
noncomputable def X3:ag S:=[R (M (Y 6 [a]) 1004 [s [97,115,99,105,105]])]
noncomputable def X1:ag S:=[W 1 (L [m 66 []]),.wh (m 62 [i 44]) [.ex (M b 1000 [m 66 []])],R b]
noncomputable def X0:ag S:=[R (m 67 [i 0])]
noncomputable def TM:ag S:=[.ex (m 68 []),.as (.tu [2,3]) (U [p (o 53) 19,m 57 []]),.jC (N d (.c (.aV 2))) [.ex (M (o 53) 59 []),W 4 (C 5 [s [117,110,111,112],c,L [X (.c (.aV 2)) d,m 67 [i 8]]])] [W 4 (m 69 [])],.wh (.du [N (m 57 []) (.c (.aV 3)),x .Gt (X (X (.c (.aV 3)) (m 57 [])) (i 1)) b]) [W 2 (p (o 53) 19),.as (.tu [5,6,7]) (X (.c (.aV 3)) (m 57 [])),.ex (M (o 53) 59 []),W 4 (C 5 [s [98,105,110,111,112],c,L [f,e,m 67 [h]]])],.ex (m 70 []),R e]
noncomputable def WQ:ag S:=[.as (.tu [1,2]) (U [p (o 53) 19,p (o 53) 22]),K (q (p c 12) (i 123)) [R (m 71 [])],K (q (p c 12) (i 265)) [.ex (M (o 53) 59 []),R (m 72 [u,p (o 53) 19])],.jC (q (p c 12) (i 284)) [W 3 (C 5 [s [110,117,109,98,101,114],b,L [p c 10]])] [.jC (q (p c 12) (i 286)) [W 3 (C 5 [s [115,116,114,105,110,103],b,L [p c 10]])] [.jC (q (p c 12) (i 269)) [W 3 (C 5 [s [110,105,108],b,z])] [.jC (q (p c 12) (i 275)) [W 3 (C 5 [s [116,114,117,101],b,z])] [.jC (q (p c 12) (i 263)) [W 3 (C 5 [s [102,97,108,115,101],b,z])] [.jC (q (p c 12) (i 279)) [K (.lu (p (o 54) 51)) [.ex (m 58 [y [99,97,110,110,111,116,32,117,115,101,32,39,46,46,46,39,32,111,117,116,115,105,100,101,32,97,32,118,97,114,97,114,103,32,102,117,110,99,116,105,111,110]])],.as (.at (o 54) 52) u,W 3 (C 5 [s [118,97,114,97,114,103],b,z])] [R (m 73 [])]]]]]],.ex (M (o 53) 59 []),R d]
noncomputable def XZ:ag S:=[W 1 (p (o 53) 19),K (q (m 57 []) (i 40)) [.ex (M (o 53) 59 []),W 2 (C 5 [s [112,97,114,101,110],b,L [m 66 []]]),.ex (m 74 [i 41,i 40,b]),R c],K (q (m 57 []) (i 285)) [R (m 75 [m 76 [],b])],.ex (m 58 [y [117,110,101,120,112,101,99,116,101,100,32,115,121,109,98,111,108]]),R n]
noncomputable def XY:ag S:=[W 1 (m 77 []),.wh t [.as (.tu [2,3]) (U [p (o 53) 19,m 57 []]),.jC (q d (i 46)) [W 1 (m 78 [b])] [.jC (q d (i 91)) [W 1 (C 5 [s [105,110,100,101,120],c,L [b,m 79 []]])] [.jC (q d (i 58)) [.ex (M (o 53) 59 []),W 4 (m 76 []),W 1 (C 5 [s [109,101,116,104,111,100],p (o 53) 19,L [b,e,m 80 []]])] [.jC (N d (U [i 40,i 286,i 123])) [W 1 (C 5 [s [99,97,108,108],c,L [b,m 80 []]])] [R b]]]]]]
noncomputable def XX:ag S:=[W 2 (p (o 53) 19),.ex (M (o 53) 59 []),W 3 (C 5 [s [115,116,114,105,110,103],p (o 53) 19,L [m 76 []]]),R (C 5 [s [105,110,100,101,120],c,L [b,d]])]
noncomputable def XW:ag S:=[.ex (M (o 53) 59 []),W 1 (m 66 []),.ex (m 81 [i 93]),R b]
noncomputable def WP:ag S:=[.as (.tu [1,2]) (U [p (o 53) 19,m 57 []]),K (q c (i 286)) [W 3 (L [C 5 [s [115,116,114,105,110,103],b,L [p (p (o 53) 22) 10]]]),.ex (M (o 53) 59 []),R d],K (q c (i 123)) [R (L [m 71 []])],K (x .NotEq c (i 40)) [.ex (m 58 [y [102,117,110,99,116,105,111,110,32,97,114,103,117,109,101,110,116,115,32,101,120,112,101,99,116,101,100]])],K (x .NotEq b (p (o 53) 20)) [.ex (m 58 [y [97,109,98,105,103,117,111,117,115,32,115,121,110,116,97,120,32,40,102,117,110,99,116,105,111,110,32,99,97,108,108,32,120,32,110,101,119,32,115,116,97,116,101,109,101,110,116,41]])],.ex (M (o 53) 59 []),W 3 (.jP (q (m 57 []) (i 41)) z (m 82 [])),.ex (m 74 [i 41,i 40,b]),R d]
noncomputable def WO:ag S:=[.as (.tu [1,2]) (U [p (o 53) 19,z]),.ex (m 81 [i 123]),.wh (x .NotEq (m 57 []) (i 125)) [.ex (M c 1000 [m 83 []]),K (.du [.lu (m 62 [i 44]),.lu (m 62 [i 59])]) [.br]],.ex (m 74 [i 125,i 123,b]),R (C 5 [s [116,97,98,108,101],b,L [c]])]
noncomputable def XV:ag S:=[W 1 (p (o 53) 19),.jC (.du [q (m 57 []) (i 285),q (p (M (o 53) 84 []) 12) (i 61)]) [W 2 (C 5 [s [115,116,114,105,110,103],b,L [m 76 []]])] [.jC (q (m 57 []) (i 91)) [W 2 (m 79 [])] [R (C 5 [s [105,116,101,109],b,L [m 66 []]])]],.ex (m 81 [i 61]),R (C 5 [s [112,97,105,114],b,L [c,m 66 []]])]
noncomputable def XU:ag S:=[.ex (M (o 53) 59 []),w 54 (C 6 [n,i 0]),.as (.at (o 54) 51) t,W 1 (m 85 []),.ex (m 61 [i 287]),R (C 5 [s [102,117,110,99,116,105,111,110],i 0,L [z,t,b,p (o 53) 19,n]])]
noncomputable def WM:ag S:=[.as (.tu [1,2,3]) (U [z,p (o 53) 19,u]),.ex (m 68 []),.wh (.du [.lu d,x .NotIn (m 57 []) (.c (.aV 19))]) [W 4 (m 86 []),W 3 (N (p e 12) (U [s [114,101,116,117,114,110],s [98,114,101,97,107]])),.ex (M b 1000 [e]),.ex (m 62 [i 59])],.ex (m 70 []),R (C 5 [s [98,108,111,99,107],c,L [b]])]
noncomputable def XT:ag S:=[W 1 (B 0 [p (o 54) 48]),W 2 (m 85 []),.ex (m 87 [b]),R c]
noncomputable def XS:ag S:=[.v7 (o 54) 49 .Add (i 1),W 1 (m 88 []),.v7 (o 54) 49 .Sub (i 1),R b]
noncomputable def XR:ag S:=[.as (.tu [1,2]) (U [p (o 53) 19,m 57 []]),K (q c (i 266)) [R (m 89 [b])],K (q c (i 277)) [R (m 90 [b])],K (q c (i 259)) [.ex (M (o 53) 59 []),W 3 (C 5 [s [100,111],b,L [m 88 []]]),.ex (m 74 [i 262,i 259,b]),R d],K (q c (i 264)) [R (m 91 [b])],K (q c (i 272)) [R (m 92 [b])],K (q c (i 265)) [R (m 93 [b])],K (q c (i 268)) [.ex (M (o 53) 59 []),R (.jP (m 62 [i 265]) (m 94 [b]) (m 95 [b]))],K (q c (i 273)) [R (m 96 [b])],K (q c (i 258)) [.ex (M (o 53) 59 []),K (q (p (o 54) 49) (i 0)) [.ex (m 58 [y [110,111,32,108,111,111,112,32,116,111,32,98,114,101,97,107]])],R (C 5 [s [98,114,101,97,107],b,z])],R (m 97 [b])]
noncomputable def TL:ag S:=[.as (.tu [2,3]) (U [z,n]),.wh (N (m 57 []) (U [i 266,i 261])) [K (.du [q (m 57 []) (i 266),x .Gt (B 0 [c]) (i 0)]) [.br],.ex (M (o 53) 59 []),W 4 (m 66 []),.ex (m 81 [i 274]),.ex (M c 1000 [U [e,m 88 []]])],K (m 62 [i 260]) [W 3 (m 88 [])],.ex (m 74 [i 262,i 266,b]),R (C 5 [s [105,102],b,L [c,d]])]
noncomputable def XQ:ag S:=[.ex (M (o 53) 59 []),W 2 (m 66 []),.ex (m 81 [i 259]),W 3 (m 98 []),.ex (m 74 [i 262,i 277,b]),R (C 5 [s [119,104,105,108,101],b,L [c,d]])]
noncomputable def XO:ag S:=[W 2 (B 0 [p (o 54) 48]),.ex (M (o 53) 59 []),.v7 (o 54) 49 .Add (i 1),W 3 (m 85 []),.ex (m 74 [i 276,i 272,b]),W 4 (m 66 []),.v7 (o 54) 49 .Sub (i 1),.ex (m 87 [c]),R (C 5 [s [114,101,112,101,97,116],b,L [d,e]])]
noncomputable def WL:ag S:=[.ex (M (o 53) 59 []),W 2 (B 0 [p (o 54) 48]),W 3 (m 76 []),.jC (q (m 57 []) (i 61)) [W 4 (m 99 [d,b])] [.jC (N (m 57 []) (U [i 44,i 267])) [W 4 (m 100 [d,b])] [.ex (m 58 [y [39,61,39,32,111,114,32,39,105,110,39,32,101,120,112,101,99,116,101,100]])]],.ex (m 74 [i 262,i 264,b]),.ex (m 87 [c]),R e]
noncomputable def XN:ag S:=[.ex (m 101 [b]),.ex (M (p (o 54) 48) 1001 [.dy .Mult (L [U [y [40,102,111,114,32,115,116,97,116,101,41],.neg (i 1)]]) b])]
noncomputable def WJ:ag S:=[.ex (m 101 [i 4]),.ex (M (o 53) 59 []),W 3 (m 66 []),.ex (m 81 [i 44]),W 4 (m 66 []),W 5 (.jP (m 62 [i 44]) (m 66 []) n),.ex (m 102 [i 3]),.ex (m 81 [i 259]),W 6 (m 103 [L [b]]),W 7 (m 98 []),R (C 5 [s [102,111,114,110,117,109],c,L [X (X g (i 0)) (i 0),X (X g (i 0)) (i 1),d,e,f,h]])]
noncomputable def XM:ag S:=[W 3 (L [b]),.wh (m 62 [i 44]) [.ex (M d 1000 [m 76 []])],.ex (m 101 [A (B 0 [d]) (i 3)]),.ex (m 81 [i 267]),W 4 (m 82 []),.ex (m 102 [i 3]),.ex (m 81 [i 259]),W 5 (m 103 [d]),W 6 (m 98 []),R (C 5 [s [102,111,114,105,110],c,L [f,e,g]])]
noncomputable def WI:ag S:=[.ex (M (o 53) 59 []),W 2 (m 75 [m 76 [],p (o 53) 20]),W 3 u,.wh (.du [N (m 57 []) (U [i 46,i 58]),.lu d]) [W 3 (q (m 57 []) (i 58)),W 2 (m 78 [c])],R (C 5 [s [97,115,115,105,103,110],b,L [L [c],L [m 72 [d,b]]]])]
noncomputable def XK:ag S:=[W 2 (m 103 [L [m 76 []]]),W 3 (m 72 [u,p (o 53) 19]),R (C 5 [s [108,111,99,97,108,102,117,110,99,116,105,111,110],b,L [X (X c (i 0)) (i 0),X (X c (i 0)) (i 1),d]])]
noncomputable def WH:ag S:=[W 2 (L [m 76 []]),.wh (m 62 [i 44]) [.ex (M c 1000 [m 76 []])],.ex (m 101 [B 0 [c]]),W 3 (.jP (m 62 [i 61]) (m 82 []) z),R (C 5 [s [108,111,99,97,108,115],b,L [m 103 [c],d]])]
noncomputable def XJ:ag S:=[.ex (M (o 53) 59 []),W 2 (.jr [N (m 57 []) (.c (.aV 19)),q (m 57 []) (i 59)]),R (C 5 [s [114,101,116,117,114,110],b,L [.jP c z (m 82 [])]])]
noncomputable def XI:ag S:=[W 2 (m 73 []),K (N (p c 12) (U [s [99,97,108,108],s [109,101,116,104,111,100]])) [R (C 5 [s [99,97,108,108,115,116,97,116],b,L [c]])],W 3 (L [c]),.wh t [K (x .NotIn (p (X d (.neg (i 1))) 12) (.c (.aV 20))) [.ex (m 58 [y [115,121,110,116,97,120,32,101,114,114,111,114]])],K (.lu (m 62 [i 44])) [.br],.ex (M d 1000 [m 73 []]),W 4 (G (p (o 15) 4) (o 55)),K (x .Gt (G (B 0 [d]) (i 1)) e) [.ex (m 63 [e,y [118,97,114,105,97,98,108,101,115,32,105,110,32,97,115,115,105,103,110,109,101,110,116]])]],.ex (m 81 [i 61]),R (C 5 [s [97,115,115,105,103,110],b,L [d,m 82 []]])]
noncomputable def Q2:ag S:=[w 54 (C 6 [o 54,c]),.ex (m 81 [i 40]),W 3 (.jP b (m 103 [L [y [115,101,108,102]]]) z),.ex (M d 1001 [m 104 []]),W 4 n,K (p (o 54) 51) [W 5 (X (m 103 [L [y [97,114,103]]]) (i 0)),.as (.at (o 54) 52) t],.ex (m 81 [i 41]),W 6 (m 85 []),W 7 (p (o 53) 19),.ex (m 74 [i 262,i 265,c]),K (p (o 54) 51) [W 4 (U [X f (i 0),X f (i 1),p (o 54) 52])],W 8 (C 5 [s [102,117,110,99,116,105,111,110],c,L [d,p (o 54) 51,g,h,e]]),w 54 (p (o 54) 47),R j]
noncomputable def WG:ag S:=[W 1 z,K (q (m 57 []) (i 41)) [R z],.wh t [K (q (m 57 []) (i 279)) [.ex (M (o 53) 59 []),.as (.at (o 54) 51) t,.br],K (x .NotEq (m 57 []) (i 285)) [.ex (m 58 [y [60,110,97,109,101,62,32,111,114,32,39,46,46,46,39,32,101,120,112,101,99,116,101,100]])],.ex (M b 1000 [m 76 []]),K (.lu (m 62 [i 44])) [.br]],R (m 103 [b])]
noncomputable def XH:ag S:=[R (M (C 9 [a,b,c]) 14 [])]
noncomputable def XG:ag S:=[.as (.su a (i 1)) (A (X a (i 1)) (i 1)),K (x .LtE (X a (i 1)) (B 0 [X a (i 0)])) [R (.dy .Mod (X (X a (i 0)) (G (X a (i 1)) (i 1))) b)],R (.dy .Mod (A (A (X a (i 2)) (.dy .Mult (i 7) (X a (i 1)))) (.dy .FloorDiv (.dy .Mult (X a (i 1)) (X a (i 1))) (i 3))) b)]
noncomputable def XF:ag S:=[W 3 z,.fo 4 (M b 1005 [s [32]]) [.jC (q e (s [69])) [W 3 (A d (F 100 [a,G c (i 1)]))] [.jC (q e (s [83])) [W 3 (A d (F 101 [a,G c (i 1)]))] [.ex (M d 1000 [e])]]],R d]
noncomputable def UV:ag S:=[W 2 (L [s [97],s [49],s [39,115,39],s [46,46,46],s [102,32,40,32,97,32,41],s [110,105,108]]),K (x .Gt b (i 0)) [W 2 (A c (L [s [45,32,69],s [110,111,116,32,69],s [69,32,43,32,69],s [69,32,46,46,32,69,32,45,32,69],s [40,32,69,32,41],s [123,32,69,32,44,32,98,32,61,32,69,32,59,32,91,32,69,32,93,32,61,32,69,32,44,32,125],s [102,117,110,99,116,105,111,110,32,40,32,97,32,44,32,46,46,46,32,41,32,114,101,116,117,114,110,32,46,46,46,32,101,110,100]])),W 2 (A c (L [s [97,32,46,32,98,32,91,32,69,32,93],s [102,32,40,32,69,32,44,32,97,32,41,32,39,115,39],s [97,32,58,32,98,32,123,32,125],s [102,117,110,99,116,105,111,110,32,40,32,41,32,83,32,101,110,100],s [35,32,97,32,61,61,32,69]]))],R (F 99 [a,X c (F 98 [a,B 0 [c]]),b])]
noncomputable def UU:ag S:=[W 2 (L [s [97,32,61,32,69],s [102,32,40,32,69,32,41],s [108,111,99,97,108,32,97,32,44,32,98,32,61,32,69],s [98,114,101,97,107],s [114,101,116,117,114,110,32,69],s [102,32,58,32,103,32,39,115,39,32,59],s [40,32,102,32,41,32,40,32,69,32,41]]),K (x .Gt b (i 0)) [W 2 (A c (L [s [100,111,32,83,32,101,110,100],s [119,104,105,108,101,32,69,32,100,111,32,83,32,98,114,101,97,107,32,101,110,100],s [114,101,112,101,97,116,32,108,111,99,97,108,32,97,32,61,32,69,32,117,110,116,105,108,32,97],s [105,102,32,69,32,116,104,101,110,32,83,32,101,108,115,101,105,102,32,69,32,116,104,101,110,32,83,32,101,108,115,101,32,83,32,101,110,100]])),W 2 (A c (L [s [102,111,114,32,105,32,61,32,69,32,44,32,49,32,100,111,32,83,32,101,110,100],s [102,111,114,32,105,32,44,32,106,32,105,110,32,69,32,44,32,97,32,100,111,32,98,114,101,97,107,32,59,32,101,110,100],s [102,117,110,99,116,105,111,110,32,102,32,46,32,103,32,58,32,104,32,40,32,97,32,44,32,46,46,46,32,41,32,83,32,114,101,116,117,114,110,32,46,46,46,32,101,110,100]])),W 2 (A c (L [s [108,111,99,97,108,32,102,117,110,99,116,105,111,110,32,102,32,40,32,41,32,114,101,116,117,114,110,32,69,32,59,32,101,110,100],s [97,32,46,32,98,32,44,32,99,32,91,32,69,32,93,32,61,32,69,32,44,32,69],s [102,32,40,32,97,32,41,32,46,32,99,32,61,32,69],s [105,102,32,97,32,116,104,101,110,32,101,108,115,101,32,101,110,100,32,83]]))],R (F 99 [a,X c (F 98 [a,B 0 [c]]),b])]
noncomputable def UT:ag S:=[.as (.tu [2,3]) (U [F 98 [a,B 0 [b]],F 98 [a,i 3]]),K (q d (i 0)) [R (A (.hO b ax (ae c)) (.hO b (ae (A c (i 1))) ax))],K (q d (i 1)) [R (A (A (A (.hO b ax (ae c)) (.hO b (ae (A c (i 1))) (ae (A c (i 2))))) (.hO b (ae c) (ae (A c (i 1))))) (.hO b (ae (A c (i 2))) ax))],W 4 (X (L [s [40],s [41],s [44],s [61],s [101,110,100],s [97],s [46,46,46],s [59],s [98,114,101,97,107],s [114,101,116,117,114,110],s [58],s [125],s [100,111],s [45],s [49],s [102,117,110,99,116,105,111,110]]) (F 98 [a,i 16])),R (A (A (.hO b ax (ae c)) (L [e])) (.hO b (ae c) ax))]
noncomputable def US:ag S:=[K (N a (U [s [97],s [98],s [99],s [102],s [103],s [104],s [105],s [106]])) [R (L [s [110,97,109,101]])],K (N a (U [s [49],s [110,105,108]])) [R (L [s [112,108,97,105,110]])],K (N a (U [s [43],s [46,46],s [61,61]])) [R (L [s [116,119,111]])],K (N a (U [s [110,111,116],s [35]])) [R (L [s [111,110,101]])],R (.jP (q a (s [45])) (L [s [116,119,111],s [111,110,101]]) (.jP (q a (s [39,115,39])) (L [s [116,101,120,116]]) (L [a])))]
noncomputable def UR:ag S:=[K (q b (s [33])) [R (.jP (.du [x .Lt c (B 0 [a]),q (X (X a c) (i 0)) (s [40])]) (.neg (i 1)) c)],K (.jr [x .GtE c (B 0 [a]),.du [q b (s [98,114,101,97,107]),.lu (X d (i 0))],.du [q b (s [46,46,46]),.lu (X d (i 1))]]) [R (.neg (i 1))],.as (.tu [4,5]) (X a c),K (q b (s [110,101,97,114])) [R (.jP (.du [q e (s [40]),.lu f]) (A c (i 1)) (.neg (i 1)))],R (.jP (N b (F 103 [e])) (A c (i 1)) (.neg (i 1)))]
noncomputable def UQ:ag S:=[K (q b (s [108,111,111,112])) [W 3 (U [t,X d (i 1)])],K (.du [q b (s [105,116,101,109]),x .Lt (A c (i 1)) (B 0 [a]),q (F 103 [X (X a c) (i 0)]) (L [s [110,97,109,101]])]) [W 0 (A (A (.hO a ax (ae (A c (i 1)))) (L [U [X (X a (A c (i 1))) (i 0),u]])) (.hO a (ae (A c (i 2))) ax))],K (q b (s [98,111,100,121])) [W 4 (.JR (.hO a (ae c) ax)),W 3 (U [u,.du [N (s [41]) e,N (s [46,46,46]) (.hO e ax (ae (M e 1007 [s [41]])))]])],.fo 5 (X (.c (.aV 21)) b) [W 6 c,.fo 7 f [K (x .GtE g (i 0)) [W 6 (F 106 [a,h,g,d])]],K (x .GtE g (i 0)) [R g]],R (.neg (i 1))]
noncomputable def UP:ag S:=[K (x .NotEq (X b (i 0)) (s [64])) [R (F 104 [a,b,c,d])],K (x .NotIn (X b (.neg (i 1))) (s [42,43,63])) [R (F 105 [a,.hO b (ae (i 1)) ax,c,d])],.as (.tu [4,5]) (U [F 105 [a,.hO b (ae (i 1)) (ae (.neg (i 1))),c,d],i 0]),.wh (x .GtE e (i 0)) [.as (.tu [2,5]) (U [e,A f (i 1)]),W 4 (.jP (x .NotEq (X b (.neg (i 1))) (s [63])) (F 105 [a,.hO b (ae (i 1)) (ae (.neg (i 1))),c,d]) (.neg (i 1)))],R (.jP (.jr [x .Gt f (i 0),x .NotEq (X b (.neg (i 1))) (s [43])]) c (.neg (i 1)))]
noncomputable def Hl:ag FI:=[⟨11,11,b0⟩,⟨2,2,b1⟩,⟨1,1,b2⟩,⟨2,3,b3⟩,⟨1,1,b4⟩,⟨1,1,b5⟩,⟨3,5,b6⟩,⟨2,2,b7⟩,⟨2,2,b8⟩,⟨3,8,b9⟩,⟨1,3,YX⟩,⟨1,1,YW⟩,⟨1,2,YV⟩,⟨1,2,YU⟩,⟨2,5,YT⟩,⟨1,1,YS⟩,⟨1,1,YR⟩,⟨1,1,YQ⟩,⟨1,1,YO⟩,⟨1,1,YN⟩,⟨1,1,YM⟩,⟨0,3,WT⟩,⟨1,2,YL⟩,⟨3,3,YK⟩,⟨4,4,YJ⟩,⟨1,1,YI⟩,⟨1,1,YH⟩,⟨3,4,YG⟩,⟨2,2,YF⟩,⟨1,1,YE⟩,⟨2,2,YD⟩,⟨1,1,YC⟩,⟨2,2,YB⟩,⟨1,1,YA⟩,⟨1,2,Yz⟩,⟨2,2,Yy⟩,⟨1,2,xf⟩,⟨1,1,Yx⟩,⟨1,1,Yw⟩,⟨2,2,WS⟩,⟨1,1,Yv⟩,⟨1,3,Yu⟩,⟨1,2,Yt⟩,⟨1,2,Ys⟩,⟨1,3,Yr⟩,⟨2,2,Yq⟩,⟨4,4,Yo⟩,⟨3,3,Yn⟩,⟨2,3,Ym⟩,⟨4,4,Yl⟩,⟨1,1,Yk⟩,⟨2,2,Yj⟩,⟨2,2,Yi⟩,⟨3,5,Yh⟩,⟨2,2,Yg⟩,⟨2,2,Ye⟩,⟨2,2,Yd⟩,⟨4,5,Yc⟩,⟨1,2,Yb⟩,⟨1,1,X9⟩,⟨1,1,X8⟩,⟨2,4,WR⟩,⟨2,2,X7⟩,⟨2,2,X6⟩,⟨3,6,X5⟩,⟨3,5,X4⟩,⟨1,1,X3⟩,⟨1,2,X1⟩,⟨1,1,X0⟩,⟨2,8,TM⟩,⟨1,4,WQ⟩,⟨1,3,XZ⟩,⟨1,5,XY⟩,⟨2,4,XX⟩,⟨1,2,XW⟩,⟨1,4,WP⟩,⟨1,3,WO⟩,⟨1,3,XV⟩,⟨1,2,XU⟩,⟨1,5,WM⟩,⟨1,3,XT⟩,⟨1,2,XS⟩,⟨1,4,XR⟩,⟨2,5,TL⟩,⟨2,4,XQ⟩,⟨2,5,XO⟩,⟨2,5,WL⟩,⟨2,2,XN⟩,⟨3,8,WJ⟩,⟨3,7,XM⟩,⟨2,4,WI⟩,⟨2,4,XK⟩,⟨2,4,WH⟩,⟨2,3,XJ⟩,⟨2,5,XI⟩,⟨3,9,Q2⟩,⟨1,2,WG⟩,⟨3,3,XH⟩,⟨2,2,XG⟩,⟨3,5,XF⟩,⟨2,3,UV⟩,⟨2,3,UU⟩,⟨2,5,UT⟩,⟨1,1,US⟩,⟨4,6,UR⟩,⟨4,8,UQ⟩,⟨4,6,UP⟩]
noncomputable def kL:ag O:=[.list [.bytes [97,110,100],.bytes [98,114,101,97,107],.bytes [100,111],.bytes [101,108,115,101],.bytes [101,108,115,101,105,102],.bytes [101,110,100],.bytes [102,97,108,115,101],.bytes [102,111,114],.bytes [102,117,110,99,116,105,111,110],.bytes [105,102],.bytes [105,110],.bytes [108,111,99,97,108],.bytes [110,105,108],.bytes [110,111,116],.bytes [111,114],.bytes [114,101,112,101,97,116],.bytes [114,101,116,117,114,110],.bytes [116,104,101,110],.bytes [116,114,117,101],.bytes [117,110,116,105,108],.bytes [119,104,105,108,101]],.list [.bytes [46,46],.bytes [46,46,46],.bytes [61,61],.bytes [62,61],.bytes [60,61],.bytes [126,61],.bytes [60,110,117,109,98,101,114,62],.bytes [60,110,97,109,101,62],.bytes [60,115,116,114,105,110,103,62],.bytes [60,101,111,102,62]],.dict [(.int 270,.str [110,111,116]),(.int 45,.str [45]),(.int 35,.str [35])],.dict [(.int 43,.aV 4),(.int 45,.aV 5),(.int 42,.aV 6),(.int 47,.aV 7),(.int 37,.aV 8),(.int 94,.aV 9),(.int 278,.aV 10),(.int 280,.aV 11),(.int 283,.aV 12),(.int 60,.aV 13),(.int 282,.aV 14),(.int 62,.aV 15),(.int 281,.aV 16),(.int 257,.aV 17),(.int 271,.aV 18)],.bq [.str [43],.int 6,.int 6],.bq [.str [45],.int 6,.int 6],.bq [.str [42],.int 7,.int 7],.bq [.str [47],.int 7,.int 7],.bq [.str [37],.int 7,.int 7],.bq [.str [94],.int 10,.int 9],.bq [.str [46,46],.int 5,.int 4],.bq [.str [61,61],.int 3,.int 3],.bq [.str [126,61],.int 3,.int 3],.bq [.str [60],.int 3,.int 3],.bq [.str [60,61],.int 3,.int 3],.bq [.str [62],.int 3,.int 3],.bq [.str [62,61],.int 3,.int 3],.bq [.str [97,110,100],.int 2,.int 2],.bq [.str [111,114],.int 1,.int 1],.bq [.int 260,.int 261,.int 262,.int 276,.int 287],.bq [.str [108,111,99,97,108],.str [103,108,111,98,97,108],.str [105,110,100,101,120]],.dict [(.str [98,108,111,99,107],.aV 22),(.str [115,116,97,116],.aV 24),(.str [115,101,109,105],.aV 26),(.str [108,97,115,116],.aV 28),(.str [114,111,119],.aV 31),(.str [108,111,111,112],.aV 43),(.str [101,108,105,102],.aV 45),(.str [101,108,115,101],.aV 47),(.str [109,111,114,101],.aV 49),(.str [110,97,109,101,115],.aV 51),(.str [110,97,109,101],.aV 53),(.str [100,111,116],.aV 55),(.str [99,111,108,111,110],.aV 57),(.str [105,110,105,116],.aV 59),(.str [118,97,114,115],.aV 61),(.str [118,97,114],.aV 63),(.str [103,114,111,117,112],.aV 66),(.str [99,97,108,108],.aV 68),(.str [116,97,105,108],.aV 70),(.str [104,101,97,100],.aV 72),(.str [102,105,101,108,100],.aV 75),(.str [97,114,103,115],.aV 78),(.str [103,105,118,101,110],.aV 81),(.str [101,120,112,115],.aV 85),(.str [101,120,112],.aV 87),(.str [116,119,111],.aV 89),(.str [117,110,97,114,121],.aV 91),(.str [115,105,109,112,108,101],.aV 94),(.str [98,101,104,105,110,100],.aV 101),(.str [116,97,98,108,101],.aV 104),(.str [105,116,101,109,115],.aV 106),(.str [111,116,104,101,114],.aV 108),(.str [115,101,112],.aV 110),(.str [105,116,101,109],.aV 113),(.str [98,111,100,121],.aV 117),(.str [112,97,114,97,109,115],.aV 119),(.str [100,111,116,115],.aV 122)],.list [.aV 23],.list [.str [64,115,116,97,116,42],.str [64,108,97,115,116,63]],.list [.aV 25],.list [.str [64,114,111,119],.str [64,115,101,109,105,63]],.list [.aV 27],.list [.str [59]],.list [.aV 29,.aV 30],.list [.str [114,101,116,117,114,110],.str [64,101,120,112,115,63],.str [64,115,101,109,105,63]],.list [.str [98,114,101,97,107],.str [64,115,101,109,105,63]],.list [.aV 32,.aV 33,.aV 34,.aV 35,.aV 36,.aV 37,.aV 38,.aV 39,.aV 40,.aV 41,.aV 42],.list [.str [100,111],.str [64,98,108,111,99,107],.str [101,110,100]],.list [.str [119,104,105,108,101],.str [64,101,120,112],.str [100,111],.str [64,108,111,111,112],.str [101,110,100]],.list [.str [114,101,112,101,97,116],.str [64,108,111,111,112],.str [117,110,116,105,108],.str [64,101,120,112]],.list [.str [105,102],.str [64,101,120,112],.str [116,104,101,110],.str [64,98,108,111,99,107],.str [64,101,108,105,102,42],.str [64,101,108,115,101,63],.str [101,110,100]],.list [.str [102,111,114],.str [110,97,109,101],.str [61],.str [64,101,120,112],.str [44],.str [64,101,120,112],.str [64,109,111,114,101,63],.str [100,111],.str [64,108,111,111,112],.str [101,110,100]],.list [.str [102,111,114],.str [64,110,97,109,101,115],.str [105,110],.str [64,101,120,112,115],.str [100,111],.str [64,108,111,111,112],.str [101,110,100]],.list [.str [102,117,110,99,116,105,111,110],.str [110,97,109,101],.str [64,100,111,116,42],.str [64,99,111,108,111,110,63],.str [64,98,111,100,121]],.list [.str [108,111,99,97,108],.str [102,117,110,99,116,105,111,110],.str [110,97,109,101],.str [64,98,111,100,121]],.list [.str [108,111,99,97,108],.str [64,110,97,109,101,115],.str [64,105,110,105,116,63]],.list [.str [64,118,97,114],.str [64,118,97,114,115,42],.str [61],.str [64,101,120,112,115]],.list [.str [64,99,97,108,108]],.list [.aV 44],.list [.str [64,98,108,111,99,107]],.list [.aV 46],.list [.str [101,108,115,101,105,102],.str [64,101,120,112],.str [116,104,101,110],.str [64,98,108,111,99,107]],.list [.aV 48],.list [.str [101,108,115,101],.str [64,98,108,111,99,107]],.list [.aV 50],.list [.str [44],.str [64,101,120,112]],.list [.aV 52],.list [.str [110,97,109,101],.str [64,110,97,109,101,42]],.list [.aV 54],.list [.str [44],.str [110,97,109,101]],.list [.aV 56],.list [.str [46],.str [110,97,109,101]],.list [.aV 58],.list [.str [58],.str [110,97,109,101]],.list [.aV 60],.list [.str [61],.str [64,101,120,112,115]],.list [.aV 62],.list [.str [44],.str [64,118,97,114]],.list [.aV 64,.aV 65],.list [.str [64,104,101,97,100],.str [64,103,114,111,117,112,43],.str [33]],.list [.str [110,97,109,101],.str [33]],.list [.aV 67],.list [.str [64,97,114,103,115,42],.str [64,102,105,101,108,100]],.list [.aV 69],.list [.str [64,104,101,97,100],.str [64,116,97,105,108,43],.str [33]],.list [.aV 71],.list [.str [64,102,105,101,108,100,42],.str [64,97,114,103,115]],.list [.aV 73,.aV 74],.list [.str [110,97,109,101]],.list [.str [40],.str [64,101,120,112],.str [41]],.list [.aV 76,.aV 77],.list [.str [46],.str [110,97,109,101]],.list [.str [91],.str [64,101,120,112],.str [93]],.list [.aV 79,.aV 80],.list [.str [58],.str [110,97,109,101],.str [64,103,105,118,101,110]],.list [.str [64,103,105,118,101,110]],.list [.aV 82,.aV 83,.aV 84],.list [.str [116,101,120,116]],.list [.str [64,116,97,98,108,101]],.list [.str [110,101,97,114],.str [64,101,120,112,115,63],.str [41]],.list [.aV 86],.list [.str [64,101,120,112],.str [64,109,111,114,101,42]],.list [.aV 88],.list [.str [64,117,110,97,114,121],.str [64,116,119,111,42]],.list [.aV 90],.list [.str [116,119,111],.str [64,117,110,97,114,121]],.list [.aV 92,.aV 93],.list [.str [111,110,101],.str [64,117,110,97,114,121]],.list [.str [64,115,105,109,112,108,101]],.list [.aV 95,.aV 96,.aV 97,.aV 98,.aV 99,.aV 100],.list [.str [112,108,97,105,110]],.list [.str [116,101,120,116]],.list [.str [46,46,46]],.list [.str [64,116,97,98,108,101]],.list [.str [102,117,110,99,116,105,111,110],.str [64,98,111,100,121]],.list [.str [64,104,101,97,100],.str [64,98,101,104,105,110,100,42],.str [33]],.list [.aV 102,.aV 103],.list [.str [64,102,105,101,108,100]],.list [.str [64,97,114,103,115]],.list [.aV 105],.list [.str [123],.str [64,105,116,101,109,115,63],.str [125]],.list [.aV 107],.list [.str [64,105,116,101,109],.str [64,111,116,104,101,114,42],.str [64,115,101,112,63]],.list [.aV 109],.list [.str [64,115,101,112],.str [64,105,116,101,109]],.list [.aV 111,.aV 112],.list [.str [44]],.list [.str [59]],.list [.aV 114,.aV 115,.aV 116],.list [.str [91],.str [64,101,120,112],.str [93],.str [61],.str [64,101,120,112]],.list [.str [110,97,109,101],.str [61],.str [64,101,120,112]],.list [.str [64,101,120,112]],.list [.aV 118],.list [.str [40],.str [64,112,97,114,97,109,115,63],.str [41],.str [64,98,108,111,99,107],.str [101,110,100]],.list [.aV 120,.aV 121],.list [.str [64,110,97,109,101,115],.str [64,100,111,116,115,63]],.list [.str [46,46,46]],.list [.aV 123],.list [.str [44],.str [46,46,46]]]
noncomputable def ud:ag (D×D×ag V):=[(0,0,[.int 64,.int 250,.int 60,.int 200,.int 40,.int 200,.int 2000,.int 50,.int 1000000000,.int 1000000]),(3,23,[]),(4,24,[]),(5,46,[]),(6,47,[]),(9,49,[])]
noncomputable def NB:ag (D×D):=[(0,0),(0,1),(0,2),(0,3),(0,4),(0,5),(0,6),(0,7),(0,8),(0,9),(3,12),(3,10),(4,9),(4,13),(4,14),(4,15),(4,16),(4,17),(4,18),(4,19),(4,20),(4,21),(4,22),(4,23),(5,12),(5,19),(5,46),(6,47),(6,19),(6,48),(6,49),(6,50),(6,51),(6,52),(9,54),(9,15),(9,53),(9,55),(9,56)]
noncomputable def FW:ag (D×D×D):=[(4,59,25),(4,84,26),(4,26,27),(4,30,35),(4,25,28),(4,28,29),(4,27,30),(4,29,31),(4,42,32),(4,31,33),(4,39,34),(4,24,36),(4,32,37),(4,40,38),(4,38,39),(4,35,40),(4,37,41),(4,36,42),(4,34,43),(4,43,44),(4,33,45),(6,64,48),(9,14,78),(9,85,79),(9,88,80),(9,98,81),(9,86,82),(9,89,83),(9,90,84),(9,92,85),(9,91,86),(9,102,87),(9,99,88),(9,100,89),(9,93,90),(9,94,91),(9,95,92),(9,96,93),(9,97,94),(9,72,95),(9,104,96),(9,82,67),(9,66,68),(9,67,69),(9,69,70),(9,77,71),(9,73,72),(9,78,73),(9,79,74),(9,80,75),(9,71,76),(9,83,77),(9,57,50),(9,58,51),(9,60,52),(9,63,53),(9,62,54),(9,61,55),(9,81,56),(9,74,57),(9,76,58),(9,68,59),(9,70,60),(9,103,61),(9,101,62),(9,87,63),(9,75,64),(9,65,65)]
noncomputable def attrL:ag bR:=(["width","registers","upvalues","local_names","ccalls","frames","stack","flush","steps","text","value","trace","kind","source","chunk","limits","kinds","at","sign","line","last_line","buffer","current","ahead","read","near_text","error","keep","move","keep_and_move","syntax_error","clear","skip_blank","read_string","read_bracket","read_dots","read_numeral","read_word","read_compared","end_line","sign_behind","skip_comment","keep_if","read_level","read_long","read_escape","parts","outer","seen","loops","borrowed","is_vararg","needs_arg","lexer","scope","depth","made","token_kind","fail","next","fail_expected","check","took","fail_limit","find","borrow","expression","operation","enter","simple","leave","table","function","primary","take_match","variable","take_name","prefix","field","bracket_key","arguments","take","expressions","table_item","lookahead","statements","statement","forget","block","if_statement","while_statement","for_statement","repeat_statement","function_statement","local_function","local_statement","return_statement","expression_statement","loop_block","numeric_for","generic_for","check_more_locals","hide","declare","parameters"]:ag fK).map bZ
noncomputable def TG:ag (bR×V):=([("enumerate",.ty 7),("range",.ty 8),("list",.ty 4),("sum",.bi 4),("len",.bi 0),("Limits",.cls 0),("LuaError",.cls 1),("_law_take",.fn 98),("_law_statement",.fn 101),("_law_bent",.fn 102),("_law_fits",.fn 105),("parse_tree",.fn 97),("isinstance",.bi 1),("int",.ty 1),("bool",.ty 2),("BLANKS",.bytes [32,9,10,11,12,13]),("digit_of",.fn 5),("is_blank_values",.fn 4),("text_in_base",.fn 9),("skip_blanks",.fn 7),("read_digits",.fn 6),("wrap",.fn 3),("abs",.bi 2),("bytes",.ty 3),("is_number",.fn 2),("number_text",.fn 10),("c_text",.fn 12),("max",.bi 3),("first_line",.fn 13),("UNDERSCORE",.int 95),("is_letter",.fn 16),("is_digit",.fn 15),("NEWLINE",.int 10),("RETURN",.int 13),("RESERVED",.aV 0),("FIRST_RESERVED",.int 257),("is_control",.fn 19),("to_text",.fn 11),("OTHER_TEXTS",.aV 1),("chunk_id",.fn 14),("SOURCE_SIZE",.int 80),("reserved_kinds",.fn 21),("END_OF_TEXT",.int (-1)),("bytearray",.ty 5),("Token",.cls 3),("TK_EOS",.int 287),("TK_NAME",.int 285),("TK_STRING",.int 286),("TK_NUMBER",.int 284),("token_text",.fn 22),("is_newline",.fn 20),("MOST_LINES",.int 2147483645),("QUOTE_DOUBLE",.int 34),("QUOTE_SINGLE",.int 39),("BRACKET_OPEN",.int 91),("DOT_lexer",.int 46),("MINUS",.int 45),("EQUALS_lexer",.int 61),("LESS",.int 60),("GREATER",.int 62),("TILDE",.int 126),("is_blank_lexer",.fn 18),("TK_EQ",.int 280),("TK_LE",.int 282),("TK_GE",.int 281),("TK_NE",.int 283),("TK_DOTS",.int 279),("TK_CONCAT",.int 278),("is_name_sign",.fn 17),("PLUS",.int 43),("str_to_number",.fn 8),("BACKSLASH",.int 92),("Lexer",.cls 4),("digits",.fn 66),("Node",.cls 5),("str",.ty 6),("COMMA",.int 44),("UNARY",.aV 2),("UNARY_STRENGTH",.int 8),("BINARY",.aV 3),("BRACE",.int 123),("TK_FUNCTION",.int 265),("TK_NIL",.int 269),("TK_TRUE",.int 275),("TK_FALSE",.int 263),("PAREN",.int 40),("CLOSE",.int 41),("DOT_treebase",.int 46),("BRACKET",.int 91),("COLON",.int 58),("BRACKET_CLOSE_treebase",.int 93),("BRACE_CLOSE",.int 125),("SEMI",.int 59),("EQUALS_treebase",.int 61),("Scope",.cls 6),("BLOCK_ENDS",.aV 19),("TK_IF",.int 266),("TK_WHILE",.int 277),("TK_DO",.int 259),("TK_END",.int 262),("TK_FOR",.int 264),("TK_REPEAT",.int 272),("TK_LOCAL",.int 268),("TK_RETURN",.int 273),("TK_BREAK",.int 258),("TK_ELSEIF",.int 261),("TK_THEN",.int 274),("TK_ELSE",.int 260),("TK_UNTIL",.int 276),("TK_IN",.int 267),("ASSIGNABLE",.aV 20),("TreeParser",.cls 9),("_law_value",.fn 100),("_law_drawn",.fn 99),("_law_kinds",.fn 103),("_law_rules",.aV 21),("_law_item",.fn 106),("_law_token",.fn 104)]:ag (fK×V)).map λx=>(bZ x.1,x.2)
noncomputable def Rw:ag (ag bR):=([["self","width","registers","upvalues","local_names","ccalls","frames","stack","flush","steps","text"],["self","value"],["value"],["n","width","low"],["octet"],["octet"],["text","at","base","found","digit"],["text","at"],["text","limits"],["text","base","limits","at","is_below","is_marked","found","end"],["n","left","found"],["value"],["text","at"],["text","at"],["source","size","room","name","line"],["sign"],["sign"],["sign"],["sign"],["sign"],["sign"],["kinds","at","word"],["kind","at"],["self","kind","value"],["self","text","chunk","limits"],["self"],["self"],["self","text","kind","message"],["self","kind"],["self"],["self","sign"],["self"],["self","signs"],["self"],["self","first"],["self","text"],["self","sign"],["self"],["self"],["self","sign"],["self"],["self","word","kind"],["self","value"],["self","level"],["self","bracket","many"],["self","quote"],["self","kind","line","parts"],["self","outer","line"],["self","name","at"],["self","text","chunk","limits"],["self"],["self","text"],["self","kind"],["self","most","what","line","head"],["self","kind"],["self","kind"],["self","kind"],["self","closing","opening","line","opened"],["self","name"],["self"],["self"],["self","names","found","name"],["self","many"],["self","many"],["self","name","line","scopes","here","number"],["self","scopes","number","kept","at"],["number"],["self","found"],["self"],["self","least","line","kind","found","word","left","right"],["self","line","token","found"],["self","line","found"],["self","found","line","kind","name"],["self","target","line","key"],["self","found"],["self","line","kind","found"],["self","line","items"],["self","line","key"],["self","body"],["self","found","line","is_last","statement"],["self","many","found"],["self","found"],["self","line","kind","found"],["self","line","arms","other","condition"],["self","line","condition","body"],["self","line","many","body","condition"],["self","line","many","name","found"],["self","many"],["self","name","line","start","limit","step","told","body"],["self","name","line","names","values","told","body"],["self","line","target","takes_self"],["self","line","told","body"],["self","line","names","values"],["self","line","is_bare"],["self","line","first","targets","most"],["self","takes_self","line","told","arg","hidden","body","last","found"],["self","names"],["text","chunk","limits"],["box","wide"],["box","text","deep","found","word"],["box","deep","some"],["box","deep","some"],["box","words","at","form","more"],["word"],["rows","part","at","flags","word","is_behind"],["rows","name","at","flags","words","items","place","part"],["rows","part","at","flags","place","many"]]:ag (ag fK)).map (·.map bZ)
noncomputable def UF:ag (D×av D):=[(3,some 0),(4,some 0),(6,none),(7,none),(8,none),(10,none),(11,none),(12,none),(13,none),(14,none),(15,none),(16,none),(17,none),(18,none),(19,none),(73,none),(74,none),(75,none),(76,none),(78,none),(79,none),(81,none),(82,none),(83,some 0),(84,some 0),(84,some 1),(84,some 2),(84,some 3),(84,some 5),(84,some 6),(84,some 7),(84,some 8),(84,some 9),(84,some 10),(84,some 11),(84,some 4),(84,some 12),(84,some 13),(84,some 14),(84,some 16),(84,some 17),(84,some 18),(84,some 19),(84,some 20),(84,some 21),(84,some 24),(88,some 0),(89,some 0),(89,some 1),(90,some 0),(90,some 1),(90,some 2),(90,some 3),(90,some 4),(90,some 5),(90,some 6),(90,some 7),(90,some 8),(90,some 9),(90,some 10),(90,some 11),(90,some 12),(90,some 13),(90,some 14),(90,some 15),(90,some 16),(91,none),(96,some 1),(96,some 2),(96,some 3),(96,some 4),(96,some 5),(96,some 6),(96,some 7),(96,some 8),(96,some 9),(96,some 10),(96,some 11),(100,some 0),(100,some 1),(100,some 2),(100,some 3),(100,some 4),(100,some 5),(100,some 6),(100,some 7),(100,some 8),(100,some 9),(100,some 10),(100,some 11),(100,some 12),(100,some 13),(100,some 14),(100,some 15),(100,some 16),(100,some 17),(100,some 18),(101,none),(104,none),(105,none),(106,none),(107,none),(108,none),(109,none),(110,none),(111,none),(112,none)]
noncomputable def P:JG:=⟨λn=>kL[n]?,λc a=>NB.any λx=>gW x.1 c&&gW x.2 a,λn=>Hl[n]?,λc a=>(FW.find? λx=>gW x.1 c&&gW x.2.1 a).map (·.2.2),λc=>(ud.find? λx=>gW x.1 c).map (·.2)⟩
noncomputable def TX:Txt:=⟨P,λn=>(Rw[n]?).getD [],TG,attrL,⟨#[76,117,97,83,121,110,116,97,120,69,114,114,111,114]⟩⟩
end Mi
end
set_option tactic.hygienic false
section
namespace Mi
open PySem PySem.W PySem.Calls PyProof.Rows
noncomputable abbrev pw:dZ:=PySem.Challenge.pw_pc0182_01
noncomputable def Ft:ag D:=[36,71,96,103,110,117,124,131,138,145,152,159,166,173,180,189,196,203,210,217,224,238,245,259,280,287,294,301,315,322,329,336,343,350,357,308,364,371,378,392,399,406,413,420,427,448,491,512,519,540,547,554,561,568,575,582,589,596,603,610,617,624,631,638,645,652,666,704,711,718,725,732,739,746,753,760,767,774,795,802,809,816,823,830,837,844,851,858,865,872,879,886,893,900,907,914,921,933,1045,1052,1059,1066,1073,1080,1087,1092,1099]
noncomputable def Rc:ag D:=[53,74,87,262,465,494,522,655,777,924]
noncomputable def VX:ag D:=[52,73,86,261,464,493,521,654,776,923]
noncomputable def VY:ag D:=[181,182,667,668,669,670,671,672,673,674,675,676,677,678,679,680,681,682,683,780,781,934,936,935,938,937,940,939,943,941,942,955,944,945,946,947,948,949,950,951,952,953,954,957,956,959,958,961,960,963,962,965,964,967,966,969,968,971,970,973,972,975,974,978,976,977,980,979,983,982,985,984,988,986,987,991,989,990,994,992,993,998,995,996,997,1000,999,1002,1001,1004,1003,1007,1005,1006,1014,1008,1009,1010,1011,1012,1013,1017,1015,1016,1019,1018,1021,1020,1023,1022,1026,1024,1025,1030,1027,1028,1029,1033,1032,1036,1034,1035,1038,1037]
noncomputable def n8(i:D):bk:=(Ft[i]?).getD 0
noncomputable def gY(i:D):bk:=(Rc[i]?).getD 0
noncomputable def zc(i:D):bk:=(VY[i]?).getD 0
noncomputable def Uh:ag fK:=["object","int","bool","bytes","list","bytearray","str","enumerate","range"]
noncomputable def JB:ag fK:=["len","isinstance","abs","max","sum"]
noncomputable def Qm(t:D):fK:=(Uh[t]?).getD "object"
noncomputable def Fh(b:D):fK:=(JB[b]?).getD "len"
noncomputable def qB(a:D):bR:=(attrL[a]?).getD ⟨#[0,a]⟩
noncomputable def Nt(p:dZ)(w:dj):V->aF
 | .int i=>(intKind p w).hash i
 | .str s=>(xt p w).hash ⟨s.toArray⟩
 | .bytes b=>(bytesKind p w).hash (b.map iZ)
 |_=>0
noncomputable def yU(p:dZ)(w:dj)(sa:bk):kq:=⟨qB,n8,gY,λk=>if k=1000 then sa else zc k,Qm,Fh,Nt p w⟩
theorem Sa{p:dZ}{w:dj}{hb:cW}{sa L₀ X₀:bk}{d₀:Data}{g:D->av (bk×bk)}:yx ⟨p,w,yU p w sa,hb,L₀,d₀,X₀,g⟩:=by
 refine bX (λi=>rfl) (λx=>?_) (λb=>?_)
 ·refine(?_ :(xt p w).hash ⟨x.cps.toList.toArray⟩=_);exact I nS J
 ·refine(?_ :(bytesKind p w).hash ((b.map fz).map iZ)=_);exact I pB (I (show(iZ∘fz)=id from funext λx=>by simp) (I (List.map_id ..) J))
noncomputable def rC(s:eU)(a:D):av A2:=ok (jg a s.n) ((s.tree.get a).bind alive)
theorem lE{s:eU}{a:D}{o:A2}(e:rC s a=ae o):s.abs.heap.get? a=ae o:=jq e λh e=>eA e λx b e=>I (show s.abs.heap=absHeap s.tree s.n s.life from J) (I (abs_get (ac h) b) e)
noncomputable def mA(s:eU):pq:=(Rc++VX++Ft).filterMap λa=>(rC s a).map λo=>(a,o)
theorem ES{s:eU}:∀{f:ag D} {a:bk} {o:A2},(f.filterMap λa=>(rC s a).map λo=>(a,o)).lookup a=ae o->rC s a=ae o:=by
 intro c;induction c with
 |nil=>
  intro h h e;exact nn e
 |cons b f d=>
  intro a o e;rw[oH] at e;cases hb:rC s b with
  |none=>rw[hb] at e;exact d e
  |some x=>
   rw[hb] at e;simp only [oB,fY] at e;by_cases q:a=b
   ·revert e hb;refine sb q λe hb=>?_;rw[fW] at e;injection e with e;exact I (aQ e) hb
   ·rw[aK.mpr q] at e;exact d e
noncomputable def C6(v:V)(y:ay):aD:=match v with
 | .none=>y== .none
 | .bool b=>y== .bool b
 | .int i=>(match y with| .int j _=>j==i|_=>ai)
 | .str s=>(match y with| .str x _=>x.cps.toList==s|_=>ai)
 | .bytes b=>(match y with| .bytes x _=>x.toList.map fz==b|_=>ai)
 | .fn i=>y== .ref (n8 i)
 | .cls c=>y== .ref (gY c)
 | .aV k=> !(k==1000)&&y== .ref (zc k)
 | .ty t=>y== .type (Qm t)
 | .bi b=>y== .builtin (Fh b)
 | .ref _=>ai
theorem t9{p:dZ}{w:dj}{sa:bk}{v:V}{y:ay}(h:C6 v y=am)(ρ:fD):VR (yU p w sa) ρ v y:=by
 induction v with
 |int=>cases y<;>first|cases h|exact⟨_,aL (Value.int · _) (a6.mp h)⟩
 |str=>cases y<;>first|cases h|exact dO _ _ rfl (a6.mp h)
 |bytes=>cases y<;>first|cases h|exact dO _ _ rfl (a6.mp h)
 |ref=>exact ft h
 |aV k=>
  have h:(!(k==1000)&&y== .ref (zc k))=am:=h;rw[aq,bc,aK,a6] at h;refine(?_ :y= .ref (if k=1000 then sa else zc k));exact cM h.1 h.2
 |_=>exact a6.mp h
noncomputable def a2{α β:Type}(f:α->β->aD):ag α->ag β->aD
 |[],c=>c.isEmpty
 |a::as,c=>(match c with|[]=>ai|b::c=>f a b&&a2 f as c)
theorem zp{α β:Type}{f:α->β->aD}{R:α->β->Prop}(i:∀a b,f a b=am->R a b):∀{d:ag α} {c:ag β},a2 f d c=am->fe R d c:=by
 intro d;induction d with
 |nil=>intro c h;exact I (dJ.mp h) .nil
 |cons a d e=>
  intro c h;induction c with
  |nil=>exact ft h
  |cons b c=>exact cv ((aq _ _).mp h) λk j=> .cons (i _ _ k) (e j)
noncomputable def Jm(s:eU)(c:fK)(a:D):av (eZ ay):=(rC s a).bind λo=>match o.data with
 | .seq b _=>ok (o.cls== .type c&&(o.dict.isNone&&o.slots.isEmpty)) (ae b)
 |_=>ax
theorem uA{s:eU}{c:fK}{a:D}{l:eZ ay}(h:Jm s c a=ae l):∃n,s.abs.heap.get? a=ae {cls:= .type c,data:= .seq l n}:=by
 refine eA h λe j h=>?_;obtain⟨q,d,p,o⟩:=e;induction p with
 |seq r n=>
  refine jq (b:=q== .type c&&(d.isNone&&o.isEmpty)) h λk h=>?_;obtain rfl:=si h;rw[aq,aq,a6,hJ,Ad] at k;refine cv k λe i=>?_;clear k;rcases e with rfl;revert j;refine ou d i λf=>λj=>?_;clear i;clear h;revert j;exact I f λj=>⟨n,lE j⟩
 |_=>exact nn h
noncomputable def Gm(s:eU)(a:D):av (eZ dX):=(rC s a).bind λo=>match o.data with
 | .dict b _=>ok (o.cls== .type "dict"&&(o.dict.isNone&&o.slots.isEmpty)) (ae b)
 |_=>ax
theorem IU{s:eU}{a:D}{k:eZ dX}(h:Gm s a=ae k):∃n,s.abs.heap.get? a=ae {cls:= .type "dict",data:= .dict k n}:=by
 refine eA h λc i h=>?_;obtain⟨p,d,o,m⟩:=c;induction o with
 |dict q n=>
  refine jq (b:=p== .type "dict"&&(d.isNone&&m.isEmpty)) h λj h=>?_;obtain rfl:=si h;rw[aq,aq,a6,hJ,Ad] at j;refine cv j λc f=>?_;clear j;rcases c with rfl;revert i;refine ou d f λe=>λi=>?_;clear f;clear h;revert i;exact I e λi=>⟨n,lE i⟩
 |_=>exact nn h
noncomputable def Xs(s:eU)(k:D)(o:O):aD:=match o with
 | .list b=>(Jm s "list" (zc k)).any λc=>a2 C6 b c.toList
 | .bq b=>(Jm s "tuple" (zc k)).any λc=>a2 C6 b c.toList
 | .dict a=>(Gm s (zc k)).any λd=> !(zc k==rI)&&(decide (a.map (·.1)).Nodup&&a2 (λf e=>C6 f.1 e.key&&C6 f.2 e.val) a d.toList)
 |_=>ai
noncomputable def mY(s:eU)(k:D):ag aF:=((Gm s (zc k)).getD #[]).toList.map (·.hash)
noncomputable def B3(k:D):ag (V×V):=match kL[k]? with
 |some (.dict kvs)=>kvs
 |_=>[]
noncomputable def j7(p:dZ)(w:dj)(k:D):ag aF:=(B3 k).map λf=>Nt p w f.1
noncomputable def nA:ag D:=[2,3,21]
noncomputable def M1(s:eU):aD:=(tH 124).all λk=>(kL[k]?).any λo=>Xs s k o&&((B3 k).isEmpty||nA.contains k)
theorem HH{α:Type}{o:av α}{f:α->aD}(h:o.any f=am):∃a,o=ae a/\f a=am:=by
 induction o with
 |none=>exact ft h
 |some a=>exact aW a J h
theorem lz{α:Type}{o:av α}{f:α->aD}{G:Prop}(h:o.any f=am)(k:∀a,o=ae a->f a=am->G):G:=aM (HH h) k
theorem Sr{p:dZ}{w:dj}{sa:bk}(ρ:fD){a:ag (V×V)}{b:ag dX}(h:fe (λf e=>(C6 f.1 e.key&&C6 f.2 e.val)=am) a b):b.map (·.hash)=a.map (λf=>Nt p w f.1)->DR (yU p w sa) ρ a b:=by
 induction h with
 |nil=>exact λi=> .nil
 |cons h _ d=>
  intro q;rw[im,im] at q;injection q with c q2;rw[aq] at h;exact .cons (bX (t9 h.1 ρ) c (t9 h.2 ρ)) (d q2)
section
variable{p:dZ}{w:dj}{s:eU}{hb:cW}{sa L₀ X₀:bk}{d₀:Data}{g:D->av (bk×bk)}
theorem R8(h:M1 s=am)(y:∀k∈nA,mY s k=j7 p w k)(q:∀b o,s.abs.heap.get? b=ae o->hb.get? b=ae o):Fw ⟨p,w,yU p w sa,hb,L₀,d₀,X₀,g⟩ P.K:=by
 intro k o e ρ
 have e:kL[k]? =ae o:=e
 have r:=(aY.mp e).1
 refine(?_ :OR _ _ _ (if k=1000 then sa else zc k) (if k=1000 then sa else zc k) o)
 refine cM (bO 0xea098b034be43c0 J r) (lz (aS.mp h k (List.mem_range.mpr r)) λz v h=>?_)
 rw[e] at v;cases v
 rw[aq] at h
 refine cv h λi j=>?_;clear h
 induction o with
 |inst=>exact ft i
 |f7=>exact ft i
 |list x=>
  exact lz i λl c d=>cs (uA c) λn c=>dO l n (q _ _ c) (zp (λa a h=>t9 h ρ) d)
 |bq x=>
  exact lz i λl c d=>cs (uA c) λn c=>dO l n (q _ _ c) (zp (λa a h=>t9 h ρ) d)
 |dict m=>
  refine lz i λt f d=>cs (IU f) λn c=>?_
  rw[aq,aq,bc,bp] at d
  have u:B3 k=m:=by unfold B3;refine I e ?_;rfl
  refine bX d.1 d.2.1 (dO t n (q _ _ c) (Sr ρ (zp (λa a h=>h) d.2.2) ?_))
  rw[u,hP,dJ] at j
  rcases j with rfl|j
  ·have:t.toList=[]:=Me.mp ((zp (R:=λa a=>JY) (λa a a=>trivial) d.2.2).length)
   exact I this rfl
  ·have:=y k (uw.mp j)
   unfold mY j7 at this
   rw[f,u] at this
   exact this
end
noncomputable def Hq:gZ->av (vO×jY×ag gZ)
 | .FunctionDef _ a b _ _ _ c _ _ _=>ae (a,c,b)
 |_=>ax
noncomputable def LX:gZ->av (ag gZ)
 | .ClassDef _ _ _ b _ _ _ _ _ _ _=>ae b
 |_=>ax
noncomputable def yT(i:D):av (vO×jY×ag gZ):=(UF[i]?).bind λx=>(pw.main.body[x.1]?).bind λa=>match x.2 with
 |none=>Hq a
 |some m=>(LX a).bind λb=>(b[m]?).bind Hq
noncomputable def Ch:gZ->av (ag be×be)
 | .Assign a e _=>ae (a,e)
 |_=>ax
noncomputable def BO(st:gZ)(a:bR):av be:=(Ch st).bind λx=>(rz x.1).bind λt=>(sC t).bind λy=>(jG y.1).bind λn=>ok (decide (n="self"/\y.2.1=a)) (ae x.2)
noncomputable def MZ(b:ag gZ):av xj:=match b with
 |[c,a]=>(BO c "value").bind λe=>(jG e).bind λx=>(BO a "trace").bind λf=>(Gz f).bind λl=>ok (decide (x="value")&&l.isEmpty) (ae ())
 |_=>ax
noncomputable def ND(i:D):av FI:=(yT i).bind λx=>
 ok ((x.2.1.names.all λy=>y.2 != .cell)&&(!x.2.1.isCoroutine&&(!x.2.1.isGenerator&&(x.2.1.kind== .function&&(((TX.aU i).all λy=>x.2.1.names.lookup y==ae .local)&&(decide ((TX.aU i).Nodup/\x.1.args.map (·.arg)=(TX.aU i).take x.1.args.length/\x.1.args.length<=(TX.aU i).length)&&
  (x.1.posonlyargs.isEmpty&&(x.1.kwonlyargs.isEmpty&&(x.1.vararg.isNone&&x.1.kwarg.isNone)))))))))
  ((qi (xD (TX.rd i x.2.1) 40) x.2.2).bind λb=>ae ⟨x.1.args.length,(TX.aU i).length,b⟩)
noncomputable def zh(s:eU)(a:D):av gQ:=(rC s a).bind λo=>match o.data with
 | .func b=>ae b
 |_=>ax
theorem AA{s:eU}{a:D}{e:gQ}(h:zh s a=ae e):∃o,s.abs.heap.get? a=ae o/\o.data= .func e:=by
 refine eA h λb f h=>?_;obtain⟨c,d,g,i⟩:=b;induction g with
 |func=>exact sb (si h) (aW _ (lE f) J)
 |_=>exact nn h
noncomputable def M9(s:eU)(v:ay):av bR:=match v with
 | .ref c=>(rC s c).bind λo=>match o.data with
  | .fields a=>(a.toList[1]?).bind λv=>match v with| .str q _=>ae q|_=>ax
  |_=>ax
 |_=>ax
theorem IZ{s:eU}{e:cW}(g:∀b o,s.abs.heap.get? b=ae o->e.get? b=ae o){v:ay}{q:bR}(h:M9 s v=ae q):e.CodeRec v q:=by
 induction v with
 |ref c=>
  refine eA (o:=rC s c) h λa j h=>?_;obtain⟨m,d,k,l⟩:=a;induction k with
  |fields f=>
   refine eA (o:=f.toList[1]?) h λv i h=>?_;induction v with
   |str=>exact sb (si h) (NV c _ _ _ rfl (g _ _ (lE j)) J (by refine I (aQ (cU)) ?_;exact I i J))
   |_=>exact nn h
  |_=>exact nn h
 |_=>exact nn h
noncomputable def uh(s:eU):ag (av (vO×jY×FuncBody×ag (bR×bk)×bk×bk×aD×aD)):=Ft.zipIdx.map λa=>(zh s a.1).map λb=>(b.params,b.scope,b.body,b.closure,b.globals,b.builtins,decide (M9 s b.code=ae b.qualname),gW a.2 0||b.defaults== .none)
noncomputable def kK:ag (av (vO×jY×FuncBody×ag (bR×bk)×bk×bk×aD×aD)):=(tH 107).map λi=>(yT i).map λx=>(x.1,x.2.1,.stmts x.2.2,[],eQ,rO,true,true)
noncomputable def QJ(s:eU):aD:=(zh s (n8 0)).any λb=>match b.defaults with
 | .ref t=>(Jm s "tuple" t).any λa=>((ud[0]?).any λx=>a2 C6 x.2.2 a.toList)&&Nat.ble a.size 11
 |_=>ai
noncomputable def cf(K:pq)(c:D)(n:bR):av (av ay):=tC K (.ref (gY c)) n
noncomputable def Jz:ag D:=[0,3,4,5,6,9]
noncomputable def QW(K:pq)(c:D):aD:=decide (cf K c "__getattribute__"=ae (ae (.builtin "object.__getattribute__"))/\cf K c "__getattr__"=ae ax/\cf K c "__setattr__"=ae (ae (.builtin "object.__setattr__"))/\plainOver K (gY c)=am)&&(clsIn K (gY c)).any (·.hasDict)
noncomputable def UK(K:pq)(c a:D):aD:=decide (cf K c (qB a)=ae ax/\copiedNames.contains (qB a)=ai/\c∈Jz)
noncomputable def RY(K:pq)(c a f:D):aD:=decide (cf K c (qB a)=ae (ae (.ref (n8 f)))/\typeIn K (.ref (n8 f))=ae (.type "function")/\Bt K (.ref (n8 f))=am/\c∈Jz)
noncomputable def Xu(K:pq)(c i:D)(a:ag V):aD:=decide (makesIn K (gY c)=am/\cf K c "__init__"=ae (ae (.ref (n8 i)))/\typeIn K (.ref (n8 i))=ae (.type "function")/\(a=[]\/c=0/\i=0))
noncomputable def QE(s:eU)(a:D):av (eZ dX):=(Pv s a).bind λb=>ok (b.toList.all λe=>match e.key with| .str .. =>am|_=>ai) (ae b)
where Pv (s:eU) (a:D):av (eZ dX):=(rC s a).bind λo=>match o.data with
 | .dict es _=>ae es
 |_=>ax
noncomputable def HG(a:eZ dX)(id:bR):av ay:=(a.toList.find? λe=>e.key.isStr id).map (·.val)
noncomputable def F6(g b:eZ dX)(id:bR)(v:V):aD:=match HG g id with
 |some e=>C6 v e
 |none=>(HG b id).any (C6 v)
noncomputable def MY(K:pq):V->aD
 | .fn i=>Bt K (.ref (n8 i))
 | .cls c=>Bt K (.ref (gY c))
 |_=>am
noncomputable def QS(K:pq)(a b:bk):aD:=(K.lookup a).any λo=>match o.data with
 | .cls c=>decide (o.cls= .type "type"/\c.mro=[.ref a,.ref b,.type "Exception",.type "BaseException",.type "object"]/\c.abstract=ai/\c.hasDel=ai/\c.hasDict=am/\(o.slots.toList[4]?).join=ae (.builtin "Exception.__new__"))
 |_=>ai
noncomputable def QR(K:pq):aD:=QS K (gY 2) (gY 1)&&decide (specialIn K (.ref (gY 2)) "__call__"=ae (ae (.builtin "type.__call__"))/\instIn K (.ref (gY 2)) (.type "type")=ae am/\
 cf K 2 "__init__"=ae (ae (.ref (n8 1)))/\typeIn K (.ref (n8 1))=ae (.type "function")/\cf K 2 "__setattr__"=ae (ae (.builtin "object.__setattr__"))/\
 cf K 2 "value"=ae ax/\cf K 2 "trace"=ae ax/\Bt K (.ref (gY 2))=am/\exmOne K (.ref (gY 2)) (.ref (gY 1))=ae am)
noncomputable def QF(s:eU)(g b c:eZ dX):aD:=(TG.all λx=>F6 g b x.1 x.2&&MY (mA s) x.2)&&decide (HG g TX.yg=ae (.ref (gY 2))/\HG c "sys.recursionlimit"=ax/\HG g "LuaError"=ae (.ref (gY 1)))
noncomputable def zf(s:eU):aD:=M1 s&&(QJ s&&((ud.all λx=>Xu (mA s) x.1 x.2.1 x.2.2)&&((Jz.all λc=>QW (mA s) c)&&((NB.all λx=>UK (mA s) x.1 x.2)&&((FW.all λx=>RY (mA s) x.1 x.2.1 x.2.2)&&
 ((QE s eQ).any λg=>(QE s rO).any λb=>(QE s cStatics).any λc=>QF s g b c&&(QR (mA s)&&(rC s rI).isSome)))))))
end Mi
end
set_option tactic.hygienic true
section
namespace Mi
open PySem PySem.W
noncomputable def qv:dZ:=view pw [113]
noncomputable def mn:ag bR:=pw.boundNames.filter λn=>n !=("law":bR)
noncomputable def JM(s:aA):eU:=⟨(s.heap.objs.toList.zipIdx).foldl (λt p=>t.ins p.2 p.1) .nil,s.heap.objs.size,s.heap.life,s.gens,s.drawn,s.toks,s.os⟩
noncomputable def zI:rP:={scope:=pw.main.scope,locals:=mainNs,globals:=mainNs,cells:=[],code:= .ref 13,frame:=ae 14}
noncomputable def S0(w:dj)(os:jh):aA:=⟨jw w.params,#[],boot_drawn,boot_toks,os⟩
namespace Hd
noncomputable abbrev q(s:fK):bR:=bZ s
noncomputable def e(P:W9)(k:fK)(t:D)(v:ay):dX:=⟨ji P (q k),.str (q k) t,v⟩
noncomputable def Px(i:D)(j:av D):vO×jY×ag gZ:=match pw.main.body[i]?,j with
 |some (.FunctionDef _ a b _ _ _ c _ _ _),none=>(a,c,b)
 |some (.ClassDef _ _ _ body _ _ _ _ _ _ _),some j=>(match body[j]? with|some (.FunctionDef _ a b _ _ _ c _ _ _)=>(a,c,b)|_=>(⟨[],[],none,[],[],none,[]⟩,pw.main.scope,[]))
 |_,_=>(⟨[],[],none,[],[],none,[]⟩,pw.main.scope,[])
noncomputable def s(x:fK)(t:D):ay:= .str (q x) t
noncomputable def i(x:aF)(t:D):ay:= .int x t
noncomputable def r(a:D):ay:= .ref a
noncomputable def t0:A2:=⟨.type "tuple",none,.seq #[] 0,#[]⟩
noncomputable def n0:A2:=⟨.none,none,.fields #[],#[]⟩
noncomputable def tu(l:ag ay):A2:=⟨.type "tuple",none,.seq l.toArray 0,#[]⟩
noncomputable def fl(c:fK)(l:ag ay):A2:=⟨.type c,none,.fields l.toArray,#[]⟩
noncomputable def nf(l:ag ay):A2:=⟨.none,none,.fields l.toArray,#[]⟩
noncomputable def di(l:ag dX)(n:D):A2:=⟨.type "dict",none,.dict l.toArray n,#[]⟩
noncomputable def ch(n m:bR)(t:D)(a b:aF)(f x y z:D)(e:aF)(g:aD)(l:ag ay):A2:=fl "code" ([.str n t,.str m (t+1),s "/claim/cut.py" (t+2),i a 0,i b 0,i 0 0,i 0 0,i e 0,r f,.bool g,i x 0,r (f+1),.none]++l++[i y 0,i a 0,s "/claim/cut.py" z])
noncomputable def ce(n:fK)(t:D)(a b:aF)(f x y z:D):A2:=ch (q n) (q n) t a b f x y z 0 ai [.none,.none,.none]
noncomputable def ts(t:D)(l:ag fK):A2:=tu ((l.zipIdx t).map λp=>s p.1 p.2)
noncomputable def nt(l:ag (aF×aF×D)):A2:=nf (l.flatMap λp=>[i p.1 0,i p.2.1 0,r p.2.2])
noncomputable def fo(n a:bR)(i:D)(j:av D)(c:ay)(k:D)(d b x:ay):A2:=⟨c,none,.func ⟨n,a,(Px i j).1,.stmts (Px i j).2.2,(Px i j).2.1,k,[],d,.none,.none,b,none,x,.none,0⟩,#[]⟩
noncomputable def JS(i:D)(j:av D):bR×bR×D:=match pw.main.body[i]?,j with
 |some (.FunctionDef n _ _ _ _ _ _ _ _ p),none=>(n,n,p.line)
 |some (.ClassDef c _ _ body _ _ _ _ _ _ _),some j=>(match body[j]? with|some (.FunctionDef n _ _ _ _ _ _ _ _ p)=>(n,c++q "."++n,p.line)|_=>(q "",q "",0))
 |_,_=>(q "",q "",0)
noncomputable def Te(i:D)(j:av D):ag bR:=((Px i j).2.1.names.filter λx=>x.2== .local).map (·.1)
noncomputable def fg(T f k:D)(j:av D)(d v:ay):ag A2:=[t0,n0,tu (((Te k j).zipIdx T).map λp=> .str p.1 p.2),t0,fo (JS k j).1 (JS k j).2.1 k j .none 0 .none .none .none,ch (JS k j).1 (JS k j).2.1 (T-3) (JS k j).2.2 (Px k j).1.args.length f 181 (T+(Te k j).length) (T+(Te k j).length+1) 3 am [r (f+2),r (f+3),r (f+4)],fo (JS k j).1 (JS k j).2.1 k j (.type "function") 3 d v (r (f+5))]
noncomputable def fm(a b c:D)(x:ay):A2:=⟨.type "frame",none,.plain,#[some (r a),some (r b),some (r c),none,some x,none,some (r 0)]⟩
noncomputable def m0:ay:=s "lua.lexer" 430
noncomputable def m1:ay:=s "lua.treebase" 914
noncomputable def m2:ay:=s "lua.values" 194
noncomputable def m3:ay:=s "lua.treeexpr" 1198
noncomputable def QI(P:W9):ag A2:=List.flatten [
[boot_o_0 P,di [e P "builtins" 162 (r 4),e P "__main__" 163 (r 5)] 2,⟨.none,none,(.dict #[e P "type.__subclasses__.Exception.0" 295 (i 74 0),e P "type.__subclasses__.Exception.n" 296 (i 1 0)] 2),#[]⟩,di [e P "__name__" 165 m0,e P "__doc__" 166 .none,e P "__package__" 167 .none,e P "__loader__" 168 (.builtin "__main__.__loader__#opaque"),e P "__spec__" 169 .none,e P "__annotations__" 170 (r 6),e P "__builtins__" 171 (r 4),e P "__file__" 173 (s "/claim/cut.py" 172),e P "__cached__" 174 .none,e P "_wall" 193 (r 21),e P "BLANKS" 197 (.bytes #[32,9,10,11,12,13] 196),e P "Limits" 268 (r 53),e P "LuaError" 298 (r 74),e P "LuaSyntaxError" 314 (r 87),e P "is_number" 321 (r 96),e P "wrap" 330 (r 103),e P "is_blank" 337 (r 210),e P "is_blank_values" 338 (r 110),e P "digit_of" 345 (r 117),e P "read_digits" 356 (r 124),e P "skip_blanks" 364 (r 131),e P "str_to_number" 372 (r 138),e P "text_in_base" 386 (r 145),e P "number_text" 395 (r 152),e P "to_text" 402 (r 159),e P "c_text" 410 (r 166),e P "first_line" 418 (r 173),e P "chunk_id" 429 (r 180),e P "END_OF_TEXT" 434 (i (-1) 433),e P "FIRST_RESERVED" 436 (i 257 435),e P "RESERVED" 458 (r 181),e P "TK_AND" 460 (i 257 459),e P "TK_BREAK" 462 (i 258 461),e P "TK_DO" 464 (i 259 463),e P "TK_ELSE" 466 (i 260 465),e P "TK_ELSEIF" 468 (i 261 467),e P "TK_END" 470 (i 262 469),e P "TK_FALSE" 472 (i 263 471),e P "TK_FOR" 474 (i 264 473),e P "TK_FUNCTION" 476 (i 265 475),e P "TK_IF" 478 (i 266 477),e P "TK_IN" 480 (i 267 479),e P "TK_LOCAL" 482 (i 268 481),e P "TK_NIL" 484 (i 269 483),e P "TK_NOT" 486 (i 270 485),e P "TK_OR" 488 (i 271 487),e P "TK_REPEAT" 490 (i 272 489),e P "TK_RETURN" 492 (i 273 491),e P "TK_THEN" 494 (i 274 493),e P "TK_TRUE" 496 (i 275 495),e P "TK_UNTIL" 498 (i 276 497),e P "TK_WHILE" 500 (i 277 499),e P "TK_CONCAT" 502 (i 278 501),e P "TK_DOTS" 504 (i 279 503),e P "TK_EQ" 506 (i 280 505),e P "TK_GE" 508 (i 281 507),e P "TK_LE" 510 (i 282 509),e P "TK_NE" 512 (i 283 511),e P "TK_NUMBER" 514 (i 284 513),e P "TK_NAME" 516 (i 285 515),e P "TK_STRING" 518 (i 286 517),e P "TK_EOS" 520 (i 287 519),e P "OTHER_TEXTS" 531 (r 182),e P "SOURCE_SIZE" 533 (i 80 532),e P "MOST_LINES" 535 (i 2147483645 534),e P "NEWLINE" 537 (i 10 536),e P "RETURN" 539 (i 13 538),e P "QUOTE_DOUBLE" 541 (i 34 540),e P "QUOTE_SINGLE" 543 (i 39 542),e P "PLUS" 545 (i 43 544),e P "MINUS" 547 (i 45 546),e P "DOT_lexer" 549 (i 46 548),e P "LESS" 551 (i 60 550),e P "EQUALS_lexer" 553 (i 61 552),e P "GREATER" 555 (i 62 554),e P "BRACKET_OPEN" 557 (i 91 556),e P "BACKSLASH" 559 (i 92 558),e P "BRACKET_CLOSE_lexer" 561 (i 93 560),e P "UNDERSCORE" 563 (i 95 562),e P "TILDE" 565 (i 126 564),e P "is_digit" 572 (r 189),e P "is_letter" 579 (r 196),e P "is_name_sign" 586 (r 203),e P "is_blank_lexer" 594 (r 210),e P "is_control" 601 (r 217),e P "is_newline" 608 (r 224),e P "escaped_sign" 616 (r 231),e P "reserved_kinds" 625 (r 238),e P "token_text" 633 (r 245),e P "Token" 664 (r 262)] 90,⟨(.type "module"),some 0,.plain,#[]⟩,⟨(.type "module"),some 3,.plain,#[]⟩,di [] 0,t0,n0,ce "<module>" 176 1 0 7 175 179 180,fm 9 3 3 (s "__main__" 164),t0,nt [(1,0,20),(6,0,27),(25,0,63),(30,0,83),(32,0,95),(34,0,102),(39,0,109),(42,0,116),(50,0,123),(59,0,130),(63,0,137),(65,0,144),(77,0,151),(87,0,158),(93,0,165),(98,0,172),(103,0,179),(169,0,188),(171,0,195),(173,0,202),(175,0,209),(178,0,216),(180,0,223),(182,0,230),(185,0,237),(190,0,244),(197,0,251)],ce "<module>" 182 1 0 11 181 185 186,fm 13 3 3 (s "__main__" 164)],
fg 190 15 0 ax .none (s "__main__" 164),
[t0,fl "builtin_function_or_method" [.builtin "type.__prepare__",.type "type"],di [e P "__module__" 205 m2,e P "__qualname__" 207 (s "Limits" 206),e P "__firstlineno__" 209 (i 6 208),e P "__init__" 236 (r 36),e P "greatest" 243 (r 43),e P "least" 250 (r 50),e P "__static_attributes__" 261 (r 51)] 7,t0,nt [(8,4,35),(20,4,42),(23,4,49)],ce "Limits" 200 6 0 25 181 203 204,fm 27 3 24 m2,tu [i 64 210,i 250 211,i 60 212,i 200 213,i 40 214,i 200 215,i 2000 216,i 50 217,i 1000000000 218,i 1000000 219]],
fg 223 30 3 (ae 0) (r 29) m2,
fg 240 37 3 (ae 1) .none m2,
fg 247 44 3 (ae 2) .none m2,
[ts 251 ["ccalls","flush","frames","local_names","registers","stack","steps","text","upvalues","width"],di [e P "__module__" 205 m2,e P "__firstlineno__" 209 (i 6 208),e P "__init__" 236 (r 36),e P "greatest" 243 (r 43),e P "least" 250 (r 50),e P "__static_attributes__" 261 (r 51),e P "__dict__" 263 (r 54),e P "__weakref__" 265 (r 55),e P "__doc__" 266 .none] 4,⟨(.type "type"),none,(.cls ⟨(q "Limits"),[.type "object"],[r 53,.type "object"],52,(q "Limits"),true,[],[],ai,none,ai⟩),#[none,none,(ae (s "Limits" 198)),(ae (s "Limits" 206)),(ae (.builtin "object.__new__")),(ae (.bool true))]⟩,fl "getset_descriptor" [s "__dict__" 262,r 53,.builtin "function.__dict__",.builtin "function.__dict__#set"],fl "getset_descriptor" [s "__weakref__" 264,r 53,.builtin "ExceptionGroup.__weakref__",.none],fl "super" [r 53,r 53,r 53],fl "builtin_function_or_method" [.builtin "object.__init_subclass__",r 53],tu [.type "Exception"],fl "builtin_function_or_method" [.builtin "type.__prepare__",.type "type"],di [e P "__module__" 276 m2,e P "__qualname__" 278 (s "LuaError" 277),e P "__firstlineno__" 280 (i 25 279),e P "__init__" 288 (r 71),e P "__static_attributes__" 291 (r 72)] 5,t0,nt [(27,4,70)],ce "LuaError" 271 25 0 61 181 274 275,fm 63 3 60 m2],
fg 284 65 4 (ae 0) .none m2,
[ts 289 ["trace","value"],di [e P "__module__" 276 m2,e P "__firstlineno__" 280 (i 25 279),e P "__init__" 288 (r 71),e P "__static_attributes__" 291 (r 72),e P "__weakref__" 293 (r 75),e P "__doc__" 294 .none] 3,⟨(.type "type"),none,(.cls ⟨(q "LuaError"),[.type "Exception"],[r 74,.type "Exception",.type "BaseException",.type "object"],73,(q "LuaError"),true,[],[r 87],ai,none,ai⟩),#[(ae (r 58)),none,(ae (s "LuaError" 269)),(ae (s "LuaError" 277)),(ae (.builtin "Exception.__new__")),(ae (.bool true))]⟩,fl "getset_descriptor" [s "__weakref__" 292,r 74,.builtin "ExceptionGroup.__weakref__",.none],fl "super" [r 74,r 74,r 74],fl "builtin_function_or_method" [.builtin "object.__init_subclass__",r 74],tu [r 74],fl "builtin_function_or_method" [.builtin "type.__prepare__",.type "type"],di [e P "__module__" 306 m2,e P "__qualname__" 308 (s "LuaSyntaxError" 307),e P "__firstlineno__" 310 (i 30 309),e P "__static_attributes__" 311 (r 85)] 4,t0,n0,ce "LuaSyntaxError" 301 30 0 81 181 304 305,fm 83 3 80 m2,t0,di [e P "__module__" 306 m2,e P "__firstlineno__" 310 (i 30 309),e P "__static_attributes__" 311 (r 85),e P "__doc__" 312 .none] 2,⟨(.type "type"),none,(.cls ⟨(q "LuaSyntaxError"),[r 74],[r 87,r 74,.type "Exception",.type "BaseException",.type "object"],86,(q "LuaSyntaxError"),true,[],[],ai,none,ai⟩),#[(ae (r 78)),none,(ae (s "LuaSyntaxError" 299)),(ae (s "LuaSyntaxError" 307)),(ae (.builtin "Exception.__new__")),(ae (.bool true))]⟩,fl "super" [r 87,r 87,r 87],fl "builtin_function_or_method" [.builtin "object.__init_subclass__",r 87]],
fg 318 90 6 ax .none m2,
fg 325 97 7 ax .none m2,
fg 334 104 8 ax .none m2,
fg 342 111 10 ax .none m2,
fg 349 118 11 ax .none m2,
fg 360 125 12 ax .none m2,
fg 368 132 13 ax .none m2,
fg 376 139 14 ax .none m2,
fg 390 146 15 ax .none m2,
fg 399 153 16 ax .none m2,
fg 406 160 17 ax .none m2,
fg 414 167 18 ax .none m2,
fg 422 174 19 ax .none m2,
[⟨(.type "list"),none,(.seq #[(.bytes #[97,110,100] 437),(.bytes #[98,114,101,97,107] 438),(.bytes #[100,111] 439),(.bytes #[101,108,115,101] 440),(.bytes #[101,108,115,101,105,102] 441),(.bytes #[101,110,100] 442),(.bytes #[102,97,108,115,101] 443),(.bytes #[102,111,114] 444),(.bytes #[102,117,110,99,116,105,111,110] 445),(.bytes #[105,102] 446),(.bytes #[105,110] 447),(.bytes #[108,111,99,97,108] 448),(.bytes #[110,105,108] 449),(.bytes #[110,111,116] 450),(.bytes #[111,114] 451),(.bytes #[114,101,112,101,97,116] 452),(.bytes #[114,101,116,117,114,110] 453),(.bytes #[116,104,101,110] 454),(.bytes #[116,114,117,101] 455),(.bytes #[117,110,116,105,108] 456),(.bytes #[119,104,105,108,101] 457)] 0),#[]⟩,⟨(.type "list"),none,(.seq #[(.bytes #[46,46] 521),(.bytes #[46,46,46] 522),(.bytes #[61,61] 523),(.bytes #[62,61] 524),(.bytes #[60,61] 525),(.bytes #[126,61] 526),(.bytes #[60,110,117,109,98,101,114,62] 527),(.bytes #[60,110,97,109,101,62] 528),(.bytes #[60,115,116,114,105,110,103,62] 529),(.bytes #[60,101,111,102,62] 530)] 0),#[]⟩],
fg 569 183 73 ax .none m0,
fg 576 190 74 ax .none m0,
fg 583 197 75 ax .none m0,
fg 590 204 76 ax .none m0,
fg 598 211 78 ax .none m0,
fg 605 218 79 ax .none m0,
fg 612 225 80 ax .none m0,
fg 620 232 81 ax .none m0,
fg 629 239 82 ax .none m0,
[t0,fl "builtin_function_or_method" [.builtin "type.__prepare__",.type "type"],di [e P "__module__" 641 m0,e P "__qualname__" 643 (s "Token" 642),e P "__firstlineno__" 645 (i 197 644),e P "__init__" 654 (r 259),e P "__static_attributes__" 657 (r 260)] 5,t0,nt [(199,4,258)],ce "Token" 636 197 0 249 181 639 640,fm 251 3 248 m0],
fg 649 253 83 (ae 0) .none m0,
[ts 655 ["kind","value"],di [e P "__module__" 641 m0,e P "__firstlineno__" 645 (i 197 644),e P "__init__" 654 (r 259),e P "__static_attributes__" 657 (r 260),e P "__dict__" 659 (r 263),e P "__weakref__" 661 (r 264),e P "__doc__" 662 .none] 4,⟨(.type "type"),none,(.cls ⟨(q "Token"),[.type "object"],[r 262,.type "object"],261,(q "Token"),true,[],[],ai,none,ai⟩),#[none,none,(ae (s "Token" 634)),(ae (s "Token" 642)),(ae (.builtin "object.__new__")),(ae (.bool true))]⟩,fl "getset_descriptor" [s "__dict__" 658,r 262,.builtin "function.__dict__",.builtin "function.__dict__#set"],fl "getset_descriptor" [s "__weakref__" 660,r 262,.builtin "ExceptionGroup.__weakref__",.none],fl "super" [r 262,r 262,r 262],fl "builtin_function_or_method" [.builtin "object.__init_subclass__",r 262]]]
noncomputable def UB(P:W9):ag A2:=((QI P).set 3 (di [e P "__name__" 165 m3,e P "__doc__" 166 .none,e P "__package__" 167 .none,e P "__loader__" 168 (.builtin "__main__.__loader__#opaque"),e P "__spec__" 169 .none,e P "__annotations__" 170 (r 6),e P "__builtins__" 171 (r 4),e P "__file__" 173 (s "/claim/cut.py" 172),e P "__cached__" 174 .none,e P "_wall" 193 (r 21),e P "BLANKS" 197 (.bytes #[32,9,10,11,12,13] 196),e P "Limits" 268 (r 53),e P "LuaError" 298 (r 74),e P "LuaSyntaxError" 314 (r 87),e P "is_number" 321 (r 96),e P "wrap" 330 (r 103),e P "is_blank" 337 (r 210),e P "is_blank_values" 338 (r 110),e P "digit_of" 345 (r 117),e P "read_digits" 356 (r 124),e P "skip_blanks" 364 (r 131),e P "str_to_number" 372 (r 138),e P "text_in_base" 386 (r 145),e P "number_text" 395 (r 152),e P "to_text" 402 (r 159),e P "c_text" 410 (r 166),e P "first_line" 418 (r 173),e P "chunk_id" 429 (r 180),e P "END_OF_TEXT" 434 (i (-1) 433),e P "FIRST_RESERVED" 436 (i 257 435),e P "RESERVED" 458 (r 181),e P "TK_AND" 460 (i 257 459),e P "TK_BREAK" 462 (i 258 461),e P "TK_DO" 464 (i 259 463),e P "TK_ELSE" 466 (i 260 465),e P "TK_ELSEIF" 468 (i 261 467),e P "TK_END" 470 (i 262 469),e P "TK_FALSE" 472 (i 263 471),e P "TK_FOR" 474 (i 264 473),e P "TK_FUNCTION" 476 (i 265 475),e P "TK_IF" 478 (i 266 477),e P "TK_IN" 480 (i 267 479),e P "TK_LOCAL" 482 (i 268 481),e P "TK_NIL" 484 (i 269 483),e P "TK_NOT" 486 (i 270 485),e P "TK_OR" 488 (i 271 487),e P "TK_REPEAT" 490 (i 272 489),e P "TK_RETURN" 492 (i 273 491),e P "TK_THEN" 494 (i 274 493),e P "TK_TRUE" 496 (i 275 495),e P "TK_UNTIL" 498 (i 276 497),e P "TK_WHILE" 500 (i 277 499),e P "TK_CONCAT" 502 (i 278 501),e P "TK_DOTS" 504 (i 279 503),e P "TK_EQ" 506 (i 280 505),e P "TK_GE" 508 (i 281 507),e P "TK_LE" 510 (i 282 509),e P "TK_NE" 512 (i 283 511),e P "TK_NUMBER" 514 (i 284 513),e P "TK_NAME" 516 (i 285 515),e P "TK_STRING" 518 (i 286 517),e P "TK_EOS" 520 (i 287 519),e P "OTHER_TEXTS" 531 (r 182),e P "SOURCE_SIZE" 533 (i 80 532),e P "MOST_LINES" 535 (i 2147483645 534),e P "NEWLINE" 537 (i 10 536),e P "RETURN" 539 (i 13 538),e P "QUOTE_DOUBLE" 541 (i 34 540),e P "QUOTE_SINGLE" 543 (i 39 542),e P "PLUS" 545 (i 43 544),e P "MINUS" 547 (i 45 546),e P "DOT_lexer" 549 (i 46 548),e P "LESS" 551 (i 60 550),e P "EQUALS_lexer" 553 (i 61 552),e P "GREATER" 555 (i 62 554),e P "BRACKET_OPEN" 557 (i 91 556),e P "BACKSLASH" 559 (i 92 558),e P "BRACKET_CLOSE_lexer" 561 (i 93 560),e P "UNDERSCORE" 563 (i 95 562),e P "TILDE" 565 (i 126 564),e P "is_digit" 572 (r 189),e P "is_letter" 579 (r 196),e P "is_name_sign" 586 (r 203),e P "is_blank_lexer" 594 (r 210),e P "is_control" 601 (r 217),e P "is_newline" 608 (r 224),e P "escaped_sign" 616 (r 231),e P "reserved_kinds" 625 (r 238),e P "token_text" 633 (r 245),e P "Token" 664 (r 262),e P "Lexer" 913 (r 465),e P "PAREN" 923 (i 40 916),e P "CLOSE" 924 (i 41 917),e P "COMMA" 925 (i 44 918),e P "SEMI" 926 (i 59 919),e P "EQUALS_treebase" 927 (i 61 920),e P "DOT_treebase" 928 (i 46 921),e P "COLON" 929 (i 58 922),e P "BRACKET" 934 (i 91 930),e P "BRACKET_CLOSE_treebase" 935 (i 93 931),e P "BRACE" 936 (i 123 932),e P "BRACE_CLOSE" 937 (i 125 933),e P "Node" 970 (r 494),e P "Scope" 1015 (r 522),e P "TreeTokens" 1190 (r 655),e P "digits" 1197 (r 666),e P "UNARY" 1208 (r 667),e P "UNARY_STRENGTH" 1210 (i 8 1209),e P "BINARY" 1279 (r 668)] 109)).set 12 (nt [(1,0,20),(6,0,27),(25,0,63),(30,0,83),(32,0,95),(34,0,102),(39,0,109),(42,0,116),(50,0,123),(59,0,130),(63,0,137),(65,0,144),(77,0,151),(87,0,158),(93,0,165),(98,0,172),(103,0,179),(169,0,188),(171,0,195),(173,0,202),(175,0,209),(178,0,216),(180,0,223),(182,0,230),(185,0,237),(190,0,244),(197,0,251),(202,0,272),(458,0,483),(464,0,504),(482,0,532),(580,0,665)])++List.flatten [
[t0,fl "builtin_function_or_method" [.builtin "type.__prepare__",.type "type"],di [e P "__module__" 672 m0,e P "__qualname__" 674 (s "Lexer" 673),e P "__firstlineno__" 676 (i 202 675),e P "__init__" 686 (r 280),e P "next" 693 (r 287),e P "lookahead" 700 (r 294),e P "error" 710 (r 301),e P "syntax_error" 718 (r 308),e P "near_text" 726 (r 315),e P "move" 733 (r 322),e P "keep" 741 (r 329),e P "keep_and_move" 748 (r 336),e P "keep_if" 756 (r 343),e P "clear" 763 (r 350),e P "end_line" 771 (r 357),e P "read" 779 (r 364),e P "skip_blank" 786 (r 371),e P "sign_behind" 793 (r 378),e P "skip_comment" 801 (r 385),e P "read_compared" 809 (r 392),e P "read_dots" 816 (r 399),e P "read_word" 825 (r 406),e P "read_numeral" 833 (r 413),e P "read_bracket" 841 (r 420),e P "read_level" 850 (r 427),e P "read_long" 860 (r 434),e P "read_inner" 868 (r 441),e P "read_string" 876 (r 448),e P "read_escape" 884 (r 455),e P "read_digits" 893 (r 462),e P "__static_attributes__" 906 (r 463)] 31,t0,nt [(204,4,279),(218,4,286),(227,4,293),(232,4,300),(238,4,307),(241,4,314),(246,4,321),(250,4,328),(255,4,335),(259,4,342),(265,4,349),(268,4,356),(277,4,363),(302,4,370),(314,4,377),(317,4,384),(330,4,391),(341,4,398),(351,4,405),(358,4,412),(370,4,419),(378,4,426),(387,4,433),(411,4,440),(417,4,447),(432,4,454),(446,4,461)],ce "Lexer" 667 202 0 270 181 670 671,fm 272 3 269 m0],
fg 680 274 84 (ae 0) .none m0,
fg 690 281 84 (ae 1) .none m0,
fg 697 288 84 (ae 2) .none m0,
fg 704 295 84 (ae 3) .none m0,
fg 714 302 84 (ae 4) .none m0,
fg 722 309 84 (ae 5) .none m0,
fg 730 316 84 (ae 6) .none m0,
fg 737 323 84 (ae 7) .none m0,
fg 745 330 84 (ae 8) .none m0,
fg 752 337 84 (ae 9) .none m0,
fg 760 344 84 (ae 10) .none m0,
fg 767 351 84 (ae 11) .none m0,
fg 775 358 84 (ae 12) .none m0,
fg 783 365 84 (ae 13) .none m0,
fg 790 372 84 (ae 14) .none m0,
fg 797 379 84 (ae 15) .none m0,
fg 805 386 84 (ae 16) .none m0,
fg 813 393 84 (ae 17) .none m0,
fg 820 400 84 (ae 18) .none m0,
fg 829 407 84 (ae 19) .none m0,
fg 837 414 84 (ae 20) .none m0,
fg 845 421 84 (ae 21) .none m0,
fg 854 428 84 (ae 22) .none m0,
fg 864 435 84 (ae 23) .none m0,
fg 872 442 84 (ae 24) .none m0,
fg 880 449 84 (ae 25) .none m0,
fg 888 456 84 (ae 26) .none m0,
[ts 894 ["ahead","at","buffer","chunk","current","kinds","last_line","limits","line","sign","source","text"],di [e P "__module__" 672 m0,e P "__firstlineno__" 676 (i 202 675),e P "__init__" 686 (r 280),e P "next" 693 (r 287),e P "lookahead" 700 (r 294),e P "error" 710 (r 301),e P "syntax_error" 718 (r 308),e P "near_text" 726 (r 315),e P "move" 733 (r 322),e P "keep" 741 (r 329),e P "keep_and_move" 748 (r 336),e P "keep_if" 756 (r 343),e P "clear" 763 (r 350),e P "end_line" 771 (r 357),e P "read" 779 (r 364),e P "skip_blank" 786 (r 371),e P "sign_behind" 793 (r 378),e P "skip_comment" 801 (r 385),e P "read_compared" 809 (r 392),e P "read_dots" 816 (r 399),e P "read_word" 825 (r 406),e P "read_numeral" 833 (r 413),e P "read_bracket" 841 (r 420),e P "read_level" 850 (r 427),e P "read_long" 860 (r 434),e P "read_inner" 868 (r 441),e P "read_string" 876 (r 448),e P "read_escape" 884 (r 455),e P "read_digits" 893 (r 462),e P "__static_attributes__" 906 (r 463),e P "__dict__" 908 (r 466),e P "__weakref__" 910 (r 467),e P "__doc__" 911 .none] 4,⟨(.type "type"),none,(.cls ⟨(q "Lexer"),[.type "object"],[r 465,.type "object"],464,(q "Lexer"),true,[],[],ai,none,ai⟩),#[none,none,(ae (s "Lexer" 665)),(ae (s "Lexer" 673)),(ae (.builtin "object.__new__")),(ae (.bool true))]⟩,fl "getset_descriptor" [s "__dict__" 907,r 465,.builtin "function.__dict__",.builtin "function.__dict__#set"],fl "getset_descriptor" [s "__weakref__" 909,r 465,.builtin "ExceptionGroup.__weakref__",.none],fl "super" [r 465,r 465,r 465],fl "builtin_function_or_method" [.builtin "object.__init_subclass__",r 465],tu [i 40 916,i 41 917,i 44 918,i 59 919,i 61 920,i 46 921,i 58 922],fl "tuple_iterator" [.none,i 7 0],t0,fl "StopIteration" [r 472,.none,.none,.none,.bool ai,.none],tu [i 91 930,i 93 931,i 123 932,i 125 933],fl "tuple_iterator" [.none,i 4 0],t0,fl "StopIteration" [r 476,.none,.none,.none,.bool ai,.none],t0,fl "builtin_function_or_method" [.builtin "type.__prepare__",.type "type"],di [e P "__module__" 945 m1,e P "__qualname__" 947 (s "Node" 946),e P "__firstlineno__" 949 (i 458 948),e P "__init__" 959 (r 491),e P "__static_attributes__" 963 (r 492)] 5,t0,nt [(460,4,490)],ce "Node" 940 458 0 481 181 943 944,fm 483 3 480 m1],
fg 953 485 88 (ae 0) .none m1,
[ts 960 ["kind","line","parts"],di [e P "__module__" 945 m1,e P "__firstlineno__" 949 (i 458 948),e P "__init__" 959 (r 491),e P "__static_attributes__" 963 (r 492),e P "__dict__" 965 (r 495),e P "__weakref__" 967 (r 496),e P "__doc__" 968 .none] 4,⟨(.type "type"),none,(.cls ⟨(q "Node"),[.type "object"],[r 494,.type "object"],493,(q "Node"),true,[],[],ai,none,ai⟩),#[none,none,(ae (s "Node" 938)),(ae (s "Node" 946)),(ae (.builtin "object.__new__")),(ae (.bool true))]⟩,fl "getset_descriptor" [s "__dict__" 964,r 494,.builtin "function.__dict__",.builtin "function.__dict__#set"],fl "getset_descriptor" [s "__weakref__" 966,r 494,.builtin "ExceptionGroup.__weakref__",.none],fl "super" [r 494,r 494,r 494],fl "builtin_function_or_method" [.builtin "object.__init_subclass__",r 494],t0,fl "builtin_function_or_method" [.builtin "type.__prepare__",.type "type"],di [e P "__module__" 978 m1,e P "__qualname__" 980 (s "Scope" 979),e P "__firstlineno__" 982 (i 464 981),e P "__init__" 991 (r 512),e P "find" 1000 (r 519),e P "__static_attributes__" 1008 (r 520)] 6,t0,nt [(466,4,511),(475,4,518)],ce "Scope" 973 464 0 502 181 976 977,fm 504 3 501 m1],
fg 986 506 89 (ae 0) .none m1,
fg 995 513 89 (ae 1) .none m1,
[ts 1001 ["borrowed","is_vararg","line","loops","needs_arg","outer","seen"],di [e P "__module__" 978 m1,e P "__firstlineno__" 982 (i 464 981),e P "__init__" 991 (r 512),e P "find" 1000 (r 519),e P "__static_attributes__" 1008 (r 520),e P "__dict__" 1010 (r 523),e P "__weakref__" 1012 (r 524),e P "__doc__" 1013 .none] 4,⟨(.type "type"),none,(.cls ⟨(q "Scope"),[.type "object"],[r 522,.type "object"],521,(q "Scope"),true,[],[],ai,none,ai⟩),#[none,none,(ae (s "Scope" 971)),(ae (s "Scope" 979)),(ae (.builtin "object.__new__")),(ae (.bool true))]⟩,fl "getset_descriptor" [s "__dict__" 1009,r 522,.builtin "function.__dict__",.builtin "function.__dict__#set"],fl "getset_descriptor" [s "__weakref__" 1011,r 522,.builtin "ExceptionGroup.__weakref__",.none],fl "super" [r 522,r 522,r 522],fl "builtin_function_or_method" [.builtin "object.__init_subclass__",r 522],t0,fl "builtin_function_or_method" [.builtin "type.__prepare__",.type "type"],di [e P "__module__" 1023 m1,e P "__qualname__" 1025 (s "TreeTokens" 1024),e P "__firstlineno__" 1027 (i 482 1026),e P "__init__" 1037 (r 540),e P "token_kind" 1044 (r 547),e P "fail" 1052 (r 554),e P "fail_expected" 1060 (r 561),e P "fail_limit" 1071 (r 568),e P "took" 1079 (r 575),e P "check" 1087 (r 582),e P "take" 1095 (r 589),e P "take_match" 1106 (r 596),e P "take_name" 1114 (r 603),e P "enter" 1121 (r 610),e P "leave" 1128 (r 617),e P "declare" 1138 (r 624),e P "check_more_locals" 1146 (r 631),e P "forget" 1154 (r 638),e P "variable" 1166 (r 645),e P "borrow" 1177 (r 652),e P "__static_attributes__" 1183 (r 653)] 21,t0,nt [(484,4,539),(491,4,546),(494,4,553),(497,4,560),(500,4,567),(505,4,574),(511,4,581),(515,4,588),(519,4,595),(527,4,602),(533,4,609),(538,4,616),(541,4,623),(551,4,630),(555,4,637),(558,4,644),(569,4,651)],ce "TreeTokens" 1018 482 0 530 181 1021 1022,fm 532 3 529 m1],
fg 1031 534 90 (ae 0) .none m1,
fg 1041 541 90 (ae 1) .none m1,
fg 1048 548 90 (ae 2) .none m1,
fg 1056 555 90 (ae 3) .none m1,
fg 1064 562 90 (ae 4) .none m1,
fg 1075 569 90 (ae 5) .none m1,
fg 1083 576 90 (ae 6) .none m1,
fg 1091 583 90 (ae 7) .none m1,
fg 1099 590 90 (ae 8) .none m1,
fg 1110 597 90 (ae 9) .none m1,
fg 1118 604 90 (ae 10) .none m1,
fg 1125 611 90 (ae 11) .none m1,
fg 1132 618 90 (ae 12) .none m1,
fg 1142 625 90 (ae 13) .none m1,
fg 1150 632 90 (ae 14) .none m1,
fg 1158 639 90 (ae 15) .none m1,
fg 1170 646 90 (ae 16) .none m1,
[ts 1178 ["depth","lexer","limits","made","scope"],di [e P "__module__" 1023 m1,e P "__firstlineno__" 1027 (i 482 1026),e P "__init__" 1037 (r 540),e P "token_kind" 1044 (r 547),e P "fail" 1052 (r 554),e P "fail_expected" 1060 (r 561),e P "fail_limit" 1071 (r 568),e P "took" 1079 (r 575),e P "check" 1087 (r 582),e P "take" 1095 (r 589),e P "take_match" 1106 (r 596),e P "take_name" 1114 (r 603),e P "enter" 1121 (r 610),e P "leave" 1128 (r 617),e P "declare" 1138 (r 624),e P "check_more_locals" 1146 (r 631),e P "forget" 1154 (r 638),e P "variable" 1166 (r 645),e P "borrow" 1177 (r 652),e P "__static_attributes__" 1183 (r 653),e P "__dict__" 1185 (r 656),e P "__weakref__" 1187 (r 657),e P "__doc__" 1188 .none] 4,⟨(.type "type"),none,(.cls ⟨(q "TreeTokens"),[.type "object"],[r 655,.type "object"],654,(q "TreeTokens"),true,[],[],ai,none,ai⟩),#[none,none,(ae (s "TreeTokens" 1016)),(ae (s "TreeTokens" 1024)),(ae (.builtin "object.__new__")),(ae (.bool true))]⟩,fl "getset_descriptor" [s "__dict__" 1184,r 655,.builtin "function.__dict__",.builtin "function.__dict__#set"],fl "getset_descriptor" [s "__weakref__" 1186,r 655,.builtin "ExceptionGroup.__weakref__",.none],fl "super" [r 655,r 655,r 655],fl "builtin_function_or_method" [.builtin "object.__init_subclass__",r 655]],
fg 1194 660 91 ax .none m1,
[di [⟨270,i 270 485,(s "not" 1200)⟩,⟨45,i 45 1201,(s "-" 1202)⟩,⟨35,i 35 1203,(s "#" 1204)⟩] 3,di [⟨43,i 43 1211,(r 669)⟩,⟨45,i 45 1215,(r 670)⟩,⟨42,i 42 1219,(r 671)⟩,⟨47,i 47 1223,(r 672)⟩,⟨37,i 37 1227,(r 673)⟩,⟨94,i 94 1231,(r 674)⟩,⟨278,i 278 501,(r 675)⟩,⟨280,i 280 505,(r 676)⟩,⟨283,i 283 511,(r 677)⟩,⟨60,i 60 1244,(r 678)⟩,⟨282,i 282 509,(r 679)⟩,⟨62,i 62 1251,(r 680)⟩,⟨281,i 281 507,(r 681)⟩,⟨257,i 257 459,(r 682)⟩,⟨271,i 271 487,(r 683)⟩] 15,tu [s "+" 1212,i 6 1213,i 6 1214],tu [s "-" 1216,i 6 1217,i 6 1218],tu [s "*" 1220,i 7 1221,i 7 1222],tu [s "/" 1224,i 7 1225,i 7 1226],tu [s "%" 1228,i 7 1229,i 7 1230],tu [s "^" 1232,i 10 1233,i 9 1234],tu [s ".." 1235,i 5 1236,i 4 1237],tu [s "==" 1238,i 3 1239,i 3 1240],tu [s "~=" 1241,i 3 1242,i 3 1243],tu [s "<" 1245,i 3 1246,i 3 1247],tu [s "<=" 1248,i 3 1249,i 3 1250],tu [s ">" 1252,i 3 1253,i 3 1254],tu [s ">=" 1255,i 3 1256,i 3 1257],tu [s "and" 1258,i 2 1259,i 2 1260],tu [s "or" 1261,i 1 1262,i 1 1263]]]
end Hd
noncomputable def tree(l:ag A2):BT:=(l.zipIdx).foldl (λt p=>t.ins p.2 p.1) .nil
noncomputable def S1(w:dj)(os:jh):eU:=⟨tree (Hd.QI w.params),267,(jw w.params).life,#[],⟨0,0,0,0⟩,665,os⟩
noncomputable def S2(w:dj)(os:jh):eU:=⟨tree (Hd.UB w.params),684,(jw w.params).life,#[],⟨0,0,0,0⟩,1280,os⟩
noncomputable def p1:gz:=⟨197,0,201,26⟩
noncomputable def p2:gz:=⟨585,0,585,6⟩
noncomputable def p3:gz:=⟨1026,0,1039,46⟩
noncomputable def cT:T5:= .body (gw pw) zI
noncomputable def MH(w:dj)(os:jh):=match PySem.W.Fast.tw15667345088766844465 gH pw w 11 (ae (.ref 6)) 12 (S0 w os) (topStub pw) with
 |some (s,t)=>kC gH pw w 11 (ae (.ref 6)) 1 2226 (JM s) (piecesOf ((gw pw).take 84) zI t.code t.pos [ij default])
 |none=>ax
noncomputable def qx(w:dj)(os:jh):=kC gH pw w 11 (ae (.ref 6)) 1 2940 (S1 w os) (piecesOf (((gw pw).drop 84).take 12) zI cT p1 [ij default])
noncomputable def wG(w:dj)(os:jh):=kC gH pw w 11 (ae (.ref 6)) 1 2912 (S2 w os) (piecesOf (((gw pw).drop 84).drop 12) zI cT p2 [ij default])
noncomputable def QC(P:W9)(a:eU):=(staticsOk [] (jw P) a.abs.heap&&namesBound pw a.abs.heap&&gensDone a.abs&&laidKept (jw P) a.abs.heap,openSeen qv mn [] (λ_=>am) am a.abs,uh a)
noncomputable def a9(a:eU):=(zf a,nA.map (mY a))
theorem Io(w:dj)(os:jh):MH w os=ae (S1 w os,⟨FE .next,cT,p1,[ij default]⟩):=by kernel_rfl
theorem AR(w:dj)(os:jh):qx (w.withFollow "special-get-raises" ai) os=ae (S2 (w.withFollow "special-get-raises" ai) os,⟨FE .next,cT,p2,[ij default]⟩):=by kernel_rfl
theorem Cw(w:dj)(os:jh):qx (w.withFollow "special-get-raises" am) os=ae (S2 (w.withFollow "special-get-raises" am) os,⟨FE .next,cT,p2,[ij default]⟩):=by kernel_rfl
noncomputable def eS(w:dj)(os:jh):=(wG w os).map λx=>(QC w.params x.1,x.2)
noncomputable def c7(w:dj)(os:jh):=(wG w os).map λx=>a9 x.1
theorem CE(w:dj)(os:jh):eS (w.withFollow "special-get-raises" ai) os=ae ((am,TW qv mn,kK),⟨FE .next,cT,p3,[ij default]⟩):=by kernel_rfl
theorem EL(w:dj)(os:jh):eS (w.withFollow "special-get-raises" am) os=ae ((am,TW qv mn,kK),⟨FE .next,cT,p3,[ij default]⟩):=by kernel_rfl
theorem c8(w:dj)(os:jh):c7 (w.withFollow "special-get-raises" ai) os=ae (am,nA.map (j7 pw (w.withFollow "special-get-raises" ai))):=by kernel_rfl
theorem dk(w:dj)(os:jh):c7 (w.withFollow "special-get-raises" am) os=ae (am,nA.map (j7 pw (w.withFollow "special-get-raises" am))):=by kernel_rfl
end Mi
end
section
open PySem PySem.W
namespace Mi
noncomputable def Rf(w:dj)(os:jh):=topGo ry pw w 11 (ae (.ref 6)) 12 (S0 w os) (topStub pw)
theorem Kc(w:dj)(os:jh):(Rf w os).map (λx=>(x.2.cur,x.2.code,x.2.stack))=ae (denote ry (.body (gw pw) zI),cT,[ij default]):=by kernel_rfl
theorem HL(w:dj)(os:jh):(Rf w os).map (λx=>((JM x.1).abs.heap.objs.toList,(JM x.1).abs.heap.life))=(Rf w os).map (λx=>(x.1.heap.objs.toList,x.1.heap.life)):=by kernel_rfl
theorem Iu:blockStart (gw pw) zI= .pure ():=by kernel_rfl
theorem xo:opening pw=plainProg pw.main.scope.names:=by kernel_rfl
theorem CK(s:aA):fenceModules? pw s=ae s:=by kernel_rfl
theorem r7:importedModules pw.main.body=[]:=by kernel_rfl
theorem Fb(w:dj):((jw w.params).isNs eQ&&([]:ag GenState).toArray.size==0,(jw w.params).objs.size,(jw w.params).nsMap eQ "__annotations__")=(am,11,some (.ref 6)):=by kernel_rfl
theorem K4{e:fK->av sL}{p:dZ}{w:dj}{a:D}{d:av ay}{s:aA}{c:T5}{b q:gz}:topRun e p w a d 5 s ⟨FE .next,c,b,[ij q]⟩=ae s:=rfl
theorem Lr(s:aA)(h:(JM s).abs.heap.objs.toList=s.heap.objs.toList)(f:(JM s).abs.heap.life=s.heap.life):(JM s).abs=s:=by
 obtain⟨⟨d,b⟩,c,a,toks,e⟩:=s
 show(⟨⟨(JM ⟨⟨d,b⟩,c,a,toks,e⟩).abs.heap.objs,b⟩,c,a,toks,e⟩:aA)=_
 rw[(Array.toList_inj.mp h)]
theorem Bb{w:dj}{k:D}{s a:eU}{t:Thread}{c:T5}{p:gz}(h:segGoT ry pw w 11 (ae (.ref 6)) 1 k s t=ae (a,⟨FE .next,c,p,[ij default]⟩)):
 segRun ry pw w 11 (ae (.ref 6)) 1 (k+1) s.abs t=ae (.next,a.abs,c,p):=seg_go (segGo_of h) J
noncomputable def No:=((am,TW qv mn,kK),(⟨FE .next,cT,p3,[ij default]⟩:Thread))
noncomputable def dr(w:dj):=(am,nA.map (j7 pw w))
theorem dt{w:dj}{a:jh}{x:eU×Thread}(e:wG w a=ae x)(h:c7 w a=ae (dr w)):zf x.1=am/\nA.map (mY x.1)=nA.map (j7 pw w):=by
 unfold c7 at h
 rw[e] at h
 exact⟨aL Prod.fst (si h),aL Prod.snd (si h)⟩
theorem Cq{w:dj}{a:jh}{j:eU}(i:qx w a=ae (S2 w a,⟨FE .next,cT,p2,[ij default]⟩))(h:wG w a=ae (j,⟨FE .next,cT,p3,[ij default]⟩)):
  topRun ry pw w 11 (ae (.ref 6)) (12+(2227+(2941+(2913+5)))) (S0 w a) (topStub pw)=ae j.abs:=by
 have c:=Io w a
 unfold MH at c
 unfold qx at i
 unfold wG at h
 rw[<-Fast.te15667345088766844465,<-SZ,<-S3] at c
 rw[<-SZ,<-S3] at i h
 have d:=Kc w a
 have b:=HL w a
 unfold Rf at d b
 split at c
 ·rename_i s t e
  rw[e] at d b
  simp only [oB,zT,kD] at d b
  obtain⟨m,l,g,f⟩:=t
  obtain⟨rfl,rfl,rfl⟩:=d
  have k:=Bb c
  rw[Lr s b.1 b.2] at k
  refine go_top e ?_
  rw[body_wrap,Iu]
  show topRun _ _ _ _ _ _ s (restOf (gw pw) zI _ g [ij default])=_
  rw[<-cI 84 (gw pw)]
  refine piece_app k ?_
  rw[<-cI 12 ((gw pw).drop 84)]
  refine piece_app (Bb i) ?_
  have:=piece_app (rest:=[]) (Bb h) (piece_nil K4)
  rwa [bz] at this
 ·exact nn c
def GC(w:dj)(s:aA):Prop:=∃a,s=a.abs/\zf a=am/\uh a=kK/\∀k∈nA,mY a k=j7 pw w k
theorem DY{w:dj}(os:jh)(m:qx w os=ae (S2 w os,⟨FE .next,cT,p2,[ij default]⟩))(d:eS w os=ae No)(c:c7 w os=ae (dr w)):
  ∃s,topFrom ry pw w 9000 (S0 w os)=ae s/\openSeen qv mn [] (λ_=>true) true s=TW qv mn/\GC w s:=by
 obtain⟨⟨a,o⟩,e,b⟩:=bw.mp d
 unfold QC No at b
 simp only [kD] at b
 obtain⟨⟨n,l,d⟩,rfl⟩:=b
 obtain⟨j,c⟩:=dt e c
 refine⟨a.abs,?_,l,a,rfl,j,d,λk i=>List.map_inj_left.mp c k i⟩
 obtain⟨h,g,f⟩:_/\_/\_:=by simpa only [kD] using Fb w
 unfold topFrom
 rw[r7,show(S0 w os).heap=jw w.params from J,show(S0 w os).gens=([]:ag GenState).toArray from J,h,g,f]
 rw[show(9000:D)=12+(2227+(2941+(2913+5)))+(9000-(12+(2227+(2941+(2913+5))))) from J,(topRun_mono (9000-(12+(2227+(2941+(2913+5))))) _ _ _ _ (Cq m e))]
 show(match staticsOk [] (jw w.params) a.abs.heap&&namesBound pw a.abs.heap&&gensDone a.abs&&laidKept (jw w.params) a.abs.heap with|true=>_|false=>_)=_
 rw[n]
theorem Dj{P:dj->Prop}(w:dj)(d:P (w.withFollow "special-get-raises" ai))(c:P (w.withFollow "special-get-raises" am)):P w:=by
 have a:=World.withFollow_self w "special-get-raises"
 cases b:w.params.followText "special-get-raises"<;>rw[b] at a
 ·rwa [a] at d
 ·rwa [a] at c
theorem qQ(w:dj):∃s,openEnds ry pw w 9000=ae s/\openSeen qv mn (importedModules pw.main.body) (λ_=>am) am s=TW qv mn/\GC w s:=by
 obtain⟨⟨h,b,d,k,a⟩,e,c⟩:=bw.mp (boot_open (p:=pw) (N:=9000) xo J CK w)
 obtain⟨rfl,rfl,rfl,rfl⟩:h=jw w.params/\b= #[]/\d=boot_drawn/\k=boot_toks:=by simpa using c
 unfold openEnds
 rw[e,r7,iJ,show(⟨jw w.params,#[],boot_drawn,boot_toks,a⟩:aA)=S0 w a from J]
 exact DY a (Dj (P:=λw=>qx w a=ae (S2 w a,⟨FE .next,cT,p2,[ij default]⟩)) w (AR w a) (Cw w a))
  (Dj (P:=λw=>eS w a=ae No) w (CE w a) (EL w a))
  (Dj (P:=λw=>c7 w a=ae (dr w)) w (c8 w a) (dk w a))
noncomputable def Ya(w:dj):aA:=(qQ w).choose
theorem CD:LeftO pw qv mn (λ_=>am) (λs=>s) Ya 9000:=λw=>by
 obtain⟨b,a,c⟩:=(qQ w).choose_spec
 show(openEnds ry pw w 9000).map _=_
 rw[b]
 exact aL ae (Prod.ext a J)
theorem HK{w:dj}{s:aA}(e:s=Ya w):GC w s:=e▸(qQ w).choose_spec.2.2
end Mi
end
set_option tactic.hygienic false
section
namespace Mi
open PySem PySem.W PySem.Calls PyProof.Rows
theorem HS:(tH 107).map ND=Hl.map ae:=by kernel_rfl
theorem D3:((yT 1).bind λx=>MZ x.2.2)=ae ():=by kernel_rfl
theorem D1:(TX.aU 1,(Hl[1]?).map (·.np))=([bZ "self",bZ "value"],some 2):=by kernel_rfl
theorem CT:attrL.Nodup:=by decide+kernel
theorem Fi:(attrL.all λx=> !(x.cps[0]? ==ae 0))=am:=by decide+kernel
theorem I3(a b:D)(h:qB a=qB b):a=b:=by
 have z:∀{i:D} {x:bR} {n:D},attrL[i]? =ae x->x≠⟨#[0,n]⟩:=λ{i x n} e q=>by
  have:=aS.mp Fi x (bI e);rw[q] at this;exact ft this
 unfold qB at h;cases c:attrL[a]? with
 |none=>
  cases hb:attrL[b]? with
  |none=>rw[c,hb] at h;cases h;rfl
  |some y=>rw[c,hb] at h;exact cq h.symm (z hb)
 |some x=>
  cases hb:attrL[b]? with
  |none=>rw[c,hb] at h;exact cq h (z c)
  |some y=>
   rw[c,hb] at h;have h:x=y:=h;exact(Wf (aY.mp c).1 CT).mp (c.trans (h▸hb.symm))
theorem LG{c a:D}(h:P.fld c a=am):(c,a)∈NB:=by
 refine aM (mS.mp h) λx b h=>?_;rw[aq] at h;exact I (aQ (eC h.1)) (I (aQ (eC h.2)) b)
theorem Iy{c a f:D}(h:P.fI c a=ae f):(c,a,f)∈FW:=by
 refine aM (bw.mp h) λx b e=>?_;have hb:=List.find?_some b;rw[aq] at hb;exact I (aQ (eC hb.1)) (I (aQ (eC hb.2)) (I (aQ e) (qp b)))
theorem IN{c:D}{x:D×ag V}(h:P.init c=ae x):(c,x)∈ud:=by
 refine aM (bw.mp h) λy a e=>I (aQ (eC (List.find?_some (p:=λx:D×D×ag V=>gW x.1 c) a))) ?_;exact I (aQ e) (qp a)
theorem Ff(b:D):handedIn (.builtin (Fh b))=am:=by
 have h:Fh b∈JB:=by
  unfold Fh
  cases h:JB[b]? with
  |none=>exact aa J
  |some x=>exact bI h
 exact(by decide+kernel:∀x∈JB,handedIn (.builtin x)=am) _ h
theorem FS{s:eU}{hb:cW}(j:∀b o,s.abs.heap.get? b=ae o->hb.get? b=ae o){a:bk}{i:eZ dX}(h:QE s a=ae i):∃m,hb.Ns a m/\∀x,m x=HG i x:=by
 refine eA h λp g h=>jq h λl h=>?_;cases h;refine eA g λf g h=>?_;obtain⟨c,d,r,v⟩:=f;induction r with
 |dict=>
  cases h;refine aW (nsFind i) ⟨_,_,_,j _ _ (lE g),rfl,λe n=>?_,λu=>rfl⟩ (λx=>?_)
  ·have:=aS.mp l e (eH.mpr n);obtain⟨_,k,_⟩:=e;induction k with
   |str q t=>exact DT q t J
   |_=>exact ft this
  ·unfold nsFind findBy HG;refine I (aQ (Array.find?_toList)) ?_;rfl
 |_=>exact nn h
theorem LO{K:pq}{a b:bk}(h:QS K a b=am):∃f d e B,K.lookup a=ae ⟨.type "type",f,.cls d,e⟩/\d.mro=[.ref a,.ref B,.type "Exception",.type "BaseException",.type "object"]/\d.abstract=ai/\d.hasDel=ai/\d.hasDict=am/\(e.toList[4]?).join=ae (.builtin "Exception.__new__"):=by
 refine lz h λg j h=>?_;obtain⟨c,f,k,e⟩:=g;induction k with
 |cls d=>
  refine cv (aa h) λ_ _=>?_;clear h;rename_i i h;subst i;exact S8 f d e b j h
 |_=>exact ft h
theorem I7{a:gZ}{x:ag be×be}(h:Ch a=ae x):∃p,a= .Assign x.1 x.2 p:=by
 cases a with
 |Assign b e p=>exact sb (si h) (⟨p,rfl⟩)
 |_=>exact nn h
theorem Ar{d:gZ}{a:bR}{e:be}(h:BO d a=ae e):∃i j f,d= .Assign [.Attribute (.Name "self" i) a j] e f:=by
 refine eA h λx p g=>eA g λt o g=>eA g λy m g=>eA g λn l g=>jq g λk g=>?_;obtain rfl:=si g;refine cv (aa k) λc b=>?_;rcases c with rfl;exact sb b (cs (I7 p) λf r=>cs (iC l) λi q=>I r (I (qY o) (I (te m) (I q (Xj _ _ _ rfl)))))
theorem LA{b:ag gZ}(h:MZ b=ae ()):rE b:=by
 match b,h with
 |[m,v],h=>
  refine cps λa i=>eA (o:=BO m "value") h λe q g=>eA g λx p g=>eA g λf n g=>eA g λl k g=>jq g λj a=>i ?_;rw[aq,bp,dJ] at j;refine cps λa i=>cv j λd c=>?_;clear j;rcases d with rfl;revert k;exact I c λk=>cs (iC p) λy t=>cs (I5 k) λw r=>Wi (Ar q) λa a a u=>Wi (Ar n) λa a a s=>i (I u (I s (I t (I r (⟨_,_,_,_,_,_,_,_,rfl⟩)))))
section
variable{p:dZ}{w:dj}{s:eU}{hb:cW}{sa L₀:bk}{d₀:Data}{pn:D->av (bk×bk)}
noncomputable abbrev GG(p:dZ)(w:dj)(sa:bk)(hb:cW)(L₀:bk)(d₀:Data)(pn:D->av (bk×bk)):Gl:=⟨p,w,yU p w sa,hb,L₀,d₀,gY 2,pn⟩
theorem Sf(Y:uh s=kK)(W:QJ s=am)(u:∀b o,s.abs.heap.get? b=ae o->hb.get? b=ae o){i:D}{q:FI}(h:P.fn i=ae q):
  ∃f g L,rF (GG p w sa hb L₀ d₀ pn) i q (TX.aU i) f g/\qi (xD (TX.rd i f.scope) 40) g=ae q.body/\yT i=ae (f.params,L,g)/\zh s (n8 i)=ae f/\(f.defaults= .none\/i=0):=by
 have h:Hl[i]? =ae q:=h
 have r:i<107:=(aY.mp h).1
 have t:ND i=ae q:=by
  have:((tH 107).map ND)[i]? =(Hl.map ae)[i]? :=by refine I HS ?_;rfl
  rw[dL,dL,h,S6 r] at this
  exact aT this
 refine eA t λl A t=>?_;obtain⟨a,L,b⟩:=l
 refine jq t λz t=>eA t λms Q t=>?_
 obtain rfl:=si t
 have e:(uh s)[i]? =kK[i]? :=by refine I Y ?_;rfl
 have R:Ft.zipIdx[i]? =ae (n8 i,i):=by
  refine I (List.getElem?_zipIdx) ?_
  unfold n8
  refine I (aI (show i<Ft.length from r)) ?_;refine I (tE ..) ?_;rfl
 unfold uh kK at e
 rw[dL,dL,R,S6 r] at e
 have e:(zh s (n8 i)).map _=(yT i).map _:=aT e
 rw[A] at e
 refine aM (bw.mp e) λf m e=>?_
 simp only [kD,bp,hP,a6] at e
 refine cv e λl d=>?_;clear e;rcases l with rfl;refine cv d λc k=>?_;clear d;rcases c with rfl;refine NX k λe3 e4 e5 e6 e7 S=>?_;clear k
 simp only [aq,bc,a6,bp,dJ,hJ] at z
 refine NX z λc1 c2 c3 c4 U d=>?_;clear z;refine A4 d λc c9 H G F=>?_;clear d;refine i7 c λE C T=>?_;clear c
 refine aM (AA m) λo M hd=>?_
 have B:f.defaults= .none\/i=0:=S.elim (λh=> .inr (eC h)) .inl
 refine tU f b _ ⟨⟨o,u _ _ M,hd⟩,IZ u e7,e3,⟨c9,H,G,F,C,C▸(Wd _ _).nodup E⟩,B.imp (λh=>h) λh=>?_,λx V=>tB.mp (aS.mp c1 x V),e4,c2,c3,c4,λj x X=>a6.mp (aS.mp U x (bI X)),E,rfl,T,e5,e6⟩ Q A m B
 clear r R A Q t e S U E C T M B;subst h
 refine lz W λaf O y=>?_
 rw[m] at O;cases O
 generalize Z:f.defaults=df at y
 induction df with
 |ref t=>
  refine lz y λK v N=>cs (uA v) λn v=>?_
  rw[aq] at N
  refine NV t _ K n J (u _ _ v) J ?_
  have:(Hl[0]?).map (·.np)=ae 11:=rfl
  rw[h] at this
  refine(?_ :K.size<=Y7 f.params.args)
  exact I ((aT this):(Y7 f.params.args)=11) (ac N.2)
 |_=>exact ft y
theorem N6(Q:zf s=am)(hf:uh s=kK)(hh:∀k∈nA,mY s k=j7 p w k)(q:∀b o,s.abs.heap.get? b=ae o->hb.get? b=ae o):m6 (GG p w sa hb L₀ d₀ pn) (mA s) TX/\exmOne (mA s) (.ref (gY 2)) (.ref (gY 1))=ae am/\∃A,hb.Ns eQ A/\A "LuaError"=ae (.ref (gY 1)):=by
 unfold zf at Q;simp only [aq] at Q;refine cps λB E=>NX Q λg1 g2 g3 g4 g5 l=>?_;clear Q;refine cv l λg6 d=>?_;clear l;refine lz d λg aj d=>lz d λb GE d=>lz d λc Fr d=>E ?_;rw[aq,aq] at d;refine i7 d λ_ _ _=>?_;clear d;rename_i d R g9;unfold QF at d;rw[aq,bp] at d;refine cps λB E=>rQ d λ_ _ _ _=>?_;clear d;rename_i d ge gl gE;refine aM (FS q aj) λA m r=>aM (FS q GE) λmb W af=>aM (FS q Fr) λmc V Z=>E ?_;unfold QR at R;rw[aq,bp] at R;refine NX R λx0 x1 x2 x3 x4 l=>?_;clear R;refine A4 l λx5 x6 x7 x8 x9=>?_;clear l;have K:∀id v,TG.lookup id=ae v->F6 g b id v=am/\MY (mA s) v=am:=λid v h=>(aq _ _).mp (aS.mp d (id,v) (mem_of_lookup h));have FN:=λi u (h:P.fn i=ae u)=>Sf (p:=p) (w:=w) (sa:=sa) (L₀:=L₀) (d₀:=d₀) (pn:=pn) hf g2 q h;have T:=λc i z (h:P.init c=ae (i,z))=>aa (aS.mp g3 _ (IN h));have FL:=λc a (h:P.fld c a=am)=>aa (aS.mp g5 _ (LG h));have U:=λc a f (h:P.fI c a=ae f)=>aa (aS.mp g6 _ (Iy h));refine⟨{fV:=⟨λa o e=>q _ _ (lE (ES e)),I3,λc a h=>?cls,λc a h=>⟨(FL c a h).1,(FL c a h).2.1⟩,Ff,λc a f h=>⟨(U c a f h).1,(U c a f h).2.1⟩⟩,ko:=R8 g1 hh q,hv:=Sa,nm:=⟨rfl,rfl,rfl,rfl,rfl,rfl,rfl,rfl,rfl,rfl,rfl,rfl⟩,sm:= ?sm,dW:=⟨mc,V,(Z _).trans gl⟩,attrs:=λa x h=>?attrs,fn:=λi u h=>let⟨L,j,_,F,t,_⟩:=FN i u h;⟨L,j,F,t⟩,iS:=λid v h=>?iS,keep:=λid v h hc=>?keep,om:=λc a f h=>(U c a f h).2.2.1,Jr:=λc i z h=>⟨(T c i z h).1,(T c i z h).2.1,(T c i z h).2.2.1⟩,dflt:=λc i z u L j h GT F=>?dflt,yg:=⟨?obj,x1,x2,x3,x4,x5,x6,x7⟩,Dy:=⟨A,m,(r _).trans ge⟩,Dx:=x8,Hr:=by decide+kernel,M4:= ?init},x9,A,m,(r _).trans gE⟩;case cls=>
  have hc:c∈Jz:=by
   rcases h with h|h
   ·exact(FL c a h).2.2
   ·exact cs (d8.mp h) λf C=>(U c a f C).2.2.2
  have:=aS.mp g4 c hc;unfold QW at this;rw[aq,bp] at this;exact⟨this.1.1,this.1.2.1,this.1.2.2.1,HH this.2,this.1.2.2.2⟩
 case sm=>exact cs (d8.mp g9) λo h=>⟨o,q _ _ (lE h)⟩
 case attrs=>
  refine(?_ :qB a=x);unfold qB;exact I h J
 case iS=>
  have:=(K id v h).1;unfold F6 at this;cases C:HG g id with
  |some e=>rw[C] at this;exact aW e (λρ=>t9 this ρ) (.inl ⟨A,m,(r _).trans C⟩)
  |none=>
   rw[C] at this;exact lz this λe h1 h2=>aW e (λρ=>t9 h2 ρ) (.inr ⟨A,mb,m,(r _).trans C,W,(af _).trans h1⟩)
 case keep=>
  have:=(K id v h).2;induction v with
  |fn=>exact this
  |cls=>exact this
  |ty=>trivial
  |bi=>trivial
  |_=>exact ft hc
 case dflt=>
  rcases(T c i z h).2.2.2 with e|⟨rfl,rfl⟩
  ·exact .inl e
  ·right;refine cps λB E=>lz g2 λLE h5 h6=>aM F.at_ λo O hd=>aM (AA h5) λo' Y H=>E ?_;have O:hb.get? (n8 0)=ae o:=O;rw[q _ _ Y] at O;cases O;rw[hd] at H;cases H;generalize KK:L.defaults=df at h6;induction df with
   |ref t=>
    refine lz h6 λvs h7 h8=>cs (uA h7) λn h7=>?_;rw[aq] at h8;refine lz h8.1 λx G h9=>?_;have e:ud[0]? =ae (0,0,z):=by
     have:P.init 0=(ud[0]?).map (·.2):=rfl
     rw[show P.init 0=ae (0,z) from h] at this
     refine aM (bw.mp this.symm) λy hy e=>?_
     refine I hy ?_
     have:(ud[0]?).map (·.1)=ae 0:=rfl
     rw[hy] at this
     exact aL ae (Prod.ext (aT this) e)
    rw[e] at G;cases G;refine S7 t _ vs n J (q _ _ h7) J (zp (λB B h=>t9 h _) h9) ?_;have:(Hl[0]?).map (·.np)=ae 11:=rfl;rw[show Hl[0]? =ae u from GT] at this;exact I ((aT this):u.np=11) (ac h8.2)
   |_=>exact ft h6
 case obj=>
  exact LO x0
 case init=>
  have e:=D1;rw[kD] at e;refine aM (bw.mp e.2) λu h1 h2=>DU (FN 1 u h1) λL j sc F B ht B=>Mh u L j (e.1▸F) h2 (eA D3 λx G hi=>?_);rw[ht] at G;cases G;exact LA hi
end
noncomputable def A5(C:Cy)(j:D)(a:ag S)(Q:PS):D->D->bS->Mi.H->Prop
 |0,_,Lc,h=>Q .next Lc h
 |k+1,i,Lc,h=>cD C a (cx Lc j (.int i)) (λc d b=>match c with
  | .next=>A5 C j a Q k (i+1) d b
  |_=>bA) h
section
variable{z:Z}{Lc m:bS}{H g B:Mi.H}
theorem CP(F:z.wa){O:bR}{U:gz}{j:D}{d:ag gZ}{P:ag S}(hx:z.aU[j]? =ae O)(y:pe z d P){Q:PS}{W:Bw->aA->Prop}{a:bk}(c:Pt z m B)
  (k:∀N g (q:Pt z N g) L f,Le c q->tZ z.G.T q.ρ L f->Q L N g->W f q.s):
  ∀(n i:D) Lc H (p:Pt z Lc H),Le c p->zv (·=a) c.toP0 p.toP0->IsRangeIter p.h a i n 1->A5 z.C j P Q n i Lc H->fG z.cl z.G.M z.A (.forLoop (.Name O U) (.ref a) d [] z.aJ) (zu z W) p.s:=by
 intro K;induction K with
 |zero=>
  intro i Lc H p l t V h;refine da (λu u u=>rfl) (?_ :cP z.cl z.G.M z.A ((forTurn (.Name O U) (.ref a) d [] z.aJ).onRaise (λx=>jL x z.aJ>>=λu=>gK x)) _ _ _);refine fa ?_;exact aG (fR (aG (fa (.of (wpAny_pyNext_range_end F.hd V (cy _) λh1 e1=>aX ⟨rfl,oV (k _ _ (Pt.iter p t.p p.tk λb o E e=>e1 b o E e) _ _ (Pt.pN l t p.tk λb o E e=>e1 b o E e) .next h)⟩)))))
 |succ n ih=>
  intro i Lc H p l t V h;refine da (λu u u=>rfl) (?_ :cP z.cl z.G.M z.A ((forTurn (.Name O U) (.ref a) d [] z.aJ).onRaise (λx=>jL x z.aJ>>=λu=>gK x)) _ _ _);refine fa ?_;refine aG (fR (aG (fa (.of (wpAny_pyNext_range_item V (bO 0x36ae8240ac8 J) λh1 w R=>?_)))));rw[show((n+1:D):aF)-1=n by exact bO 0xdeb02aac9ae8240 J,show(i:aF)+1=((i+1:D):aF) by exact bO 0xdeba09028ac9ac0 J] at w;have X:∀b o,¬b=a->p.h.get? b=ae o->h1.get? b=ae o:=λb o E e=>(R.2 b E).trans e;have i1:zv (·=a) c.toP0 (Pt.iter p t.p (p.tk+1) X).toP0:=λb e=>(bX ((t b e).1) ((t b e).2.1) ⟨_,e▸w⟩);refine aG (aX (aG (I (xx ..) (Z.wp.gp F (.cC (nJ F.toOk (Pt.iter p t.p (p.tk+1) X) hx (v:= .int i) (y:= .int i p.tk) ⟨_,rfl⟩ λq2 Y=>cv (i1.fm Y) λi2 k2=>?_))))));have h:cD z.C P (cx Lc j (.int i)) (λL N h'=>match L with
   | .next=>A5 z.C j P Q n (i+1) N h'
   |_=>bA) H:=h
  refine aG (Z.wp.gp F (y _ _ q2 _ _ h λN g q3 L f l3 r h=>cv (i2.fm l3) λi3 k3=>?_));induction r with
  |next=>exact aX ⟨rfl,ih (i+1) _ _ q3 ((Pt.pN l t (p.tk+1) X).trans (Y.trans l3)) i3 (k3 _ _ rfl (k2 _ _ rfl w)) h⟩
  |brk=>exact h.elim
  |ret=>exact h.elim
theorem xF(F:z.wa){xn:bR}{px:gz}{j:D}{arg:be}{U:E}{K:ag gZ}{R:ag S}{P A N:gz}(hx:z.aU[j]? =ae xn)(hr:z.gl "range"=ae (.ty 8))(ht:z.G.T.Aj 8="range")(hn:eJ arg=am)(x:gh z arg U)(y:pe z K R):
  zt z (tZ z.G.T) (GH (.For (.Name xn px) (.Call (.Name "range" P) [arg] [] A) K [] N) z.aJ) λL Q=>(wE z.C U).1 L λv h=>∃n:D,v= .int n/\n<=1000/\A5 z.C j R Q n 0 L h:=λLc H p Q W h k=>by
 refine I (W4 ..) (.cC (?_ :z.wp ((zN (.Name "range" P) z.aJ>>=λf=>vM A f [] (P7 A (rJ [arg] z.aJ)) [])>>=_) W p.s));refine I (eX (I ju (I hn J))) (.bind (.bind (pK F.toOk hr (aa J) (pos:=P) _ _ p (λu h=>u= .ty 8/\oh z.C [U] Lc (λvs h=>∃n:D,vs.headD .none= .int n/\n<=1000/\A5 z.C j R Q n 0 Lc h) h) _ ⟨rfl,h⟩ λx_ q u f l r Y=>cv Y λ_ _=>?_)));rename_i hu Y;revert r;refine I hu λr=>I (r) (qZ F.toOk (AI.es (z:=z) (.cons x .nil)) (uG F.toOk (v:= .ty 8) (ρ:=q.ρ) J trivial) q Y λg q vs ys V M O=>kh O λn Z ln h=>?_);refine cs (NR.mp M.2) λv i=>?_;revert M Z;refine I i λM Z=>aM M.1.dY λyv i r=>?_;revert M;refine I i λM=>?_;have l:=l.trans V;subst Z;refine cs r λt i=>?_;refine I i (?_ :z.wp (cX (.type (z.G.T.Aj 8)) [.int n t]) _ q.s);refine I ht (.of (call_range_1 ?_));rewrite[ny J];refine .bind (.pure (.cC (.bind (.fE (.of (wpAny_pyIter_range (a:=0) (b:=n) (c:=1) (bJ q.h (o:={cls:= .type "range",data:= .fields #[.int 0 q.tk,.int n t,.int 1 (q.tk+1)]}) J) (small_one (aa J) (aa J) (by lia) (by lia)) ?_))))));refine I (rangeSize_nat ..) (I (Int.sub_zero ..) ?_);have X:∀b o,q.h.get? b=ae o->((q.h.push {cls:= .type "range",data:= .fields #[.int 0 q.tk,.int n t,.int 1 (q.tk+1)]}).push {cls:= .type "range_iterator",data:= .fields #[DI 0,DI ((n:aF).toNat:aF),DI 1]}).get? b=ae o:=λb o e=>aN _ (aN _ e);have hI:=bJ (q.h.push {cls:= .type "range",data:= .fields #[.int 0 q.tk,.int n t,.int 1 (q.tk+1)]}) (o:={cls:= .type "range_iterator",data:= .fields #[DI 0,DI ((n:aF).toNat:aF),DI 1]}) J;have nI:=cz (h:=q.h) (b:=(q.h.push {cls:= .type "range",data:= .fields #[.int 0 q.tk,.int n t,.int 1 (q.tk+1)]}).objs.size) (I (gA ..) (dR _));refine nW (CP F hx y q (λx_ x_ q2 fl f V r h=>k _ _ q2 fl f (l.trans V) r h) n 0 Lc g (q.at (q.toP0.mZ (q.tk+1+1) X) (q.toP0.jx _ X)) (q.toP0.jx _ X).le (λb e=>⟨λw=>?dd,e▸q.O4 nI,_,e▸hI⟩) hI h);case dd=>
  revert w;exact I e λw=>cs ((q.gB.new _ w).2) λo e=>gG e nI
theorem KX(F:z.Ok){id:bR}{e:gz}{n:D}{a d:bk}(j:z.aJ.kindOf id=ae .cell)(q:z.aJ.cells.lookup id=ae z.G.L₀)(r:z.G.d₀= .cell (ae (.ref a)))(f:z.G.xM n=ae (a,d))(l:(id==("__debug__":bR))=ai):
  gh z (.Name id e) (.c (.ref n)):=λLc H p Q W h k=>by
 refine I (jM ..) (I l (kh p.jO.qJ λo i b s=> .cC (.of (wpAny_loadName_cell F.en.kind j q (aW o i (b.trans r)) (k _ p (.ref n) _ (Le.refl p) (dO a d J (p.jO.xM _ _ f)) h)))))
end
noncomputable def mq:ag bR:=["script","words","turn","rows","text","is_let","found"]
noncomputable def fS:ag (bR×vN):=[("script",.local),("box",.cell),("words",.local),("turn",.local),("rows",.local),("text",.local),("is_let",.local),("found",.local),("list",.globalImplicit),("sum",.globalImplicit),("range",.globalImplicit),("_law_take",.globalImplicit),("_law_statement",.globalImplicit),("_law_bent",.globalImplicit),("_law_fits",.globalImplicit),("len",.globalImplicit),("parse_tree",.globalImplicit),("Limits",.globalImplicit),("LuaError",.globalImplicit)]
noncomputable def jp:ag (bR×vN):=[(".0",.local),("word",.local),("_law_take",.globalImplicit),("box",.free)]
noncomputable def kU:ag (bR×vN):=[(".0",.local),("word",.local),("is_behind",.local)]
noncomputable def qK(a:ag (bR×vN))(id:bR):av V:=ok (a.lookup id==ae .globalImplicit) (TX.gl.lookup id)
noncomputable def zm(a:ag bR)(gl:bR->av V)(id:bR):av E:=if id==("box":bR) then ae (.c (.ref 3)) else BZ a gl id
noncomputable def qc:Rd:=⟨mq,qK fS,TX.attrs,zm mq (qK fS),none⟩
noncomputable def MB:Rd:=⟨["word"],qK jp,TX.attrs,zm ["word"] (qK jp),none⟩
noncomputable def BH:Rd:=⟨["word","is_behind"],qK kU,TX.attrs,BZ ["word","is_behind"] (qK kU),none⟩
noncomputable abbrev BI(n:aF):E:= .ca (.c (.fn 98)) [.c (.ref 3),.c (.int n)]
noncomputable abbrev E3:E:= .hO (.l 0) ax (ae (.c (.int 30)))
noncomputable abbrev Ws:E:= .bq [.eS [.ca (.c (.ty 4)) [E3],.c (.int 0),.dy .Mod (.ca (.c (.bi 4)) [E3]) (.c (.int 997))],.eS []]
noncomputable abbrev Tv:E:= .dy .Add (.c (.int 1)) (BI 2)
noncomputable abbrev QM:ag S:=[.as (.n 1) (.dy .Add (.l 1) (.ca (.c (.fn 101)) [.c (.ref 3),.c (.int 2)]))]
noncomputable abbrev Tu:E:=BI 3
noncomputable abbrev QL:ag S:=[.as (.n 1) (.jP (.cj .NotEq (.l 1) (.eS [])) (.ca (.c (.fn 102)) [.c (.ref 3),.l 1]) (.l 1))]
noncomputable abbrev Tx:E:= .bq [.l 0,.cj .Eq (BI 5) (.c (.int 0))]
noncomputable abbrev Av:E:= .dy .Add (.jP (.l 1) (.c (.str [10])) (.c (.str [32]))) (.l 0)
noncomputable abbrev Tr:S:= .as (.n 5) (.cj .Eq (.ca (.c (.fn 105)) [.l 3,.c (.str [98,108,111,99,107]),.c (.int 0),.bq [.c (.bool ai),.c (.bool am)]]) (.ca (.c (.bi 0)) [.l 3]))
noncomputable abbrev Pd:ag E:=[.me (.l 4) 1004 [.c (.str [97,115,99,105,105])],.c (.bytes [61,108,97,119]),.ca (.c (.cls 0)) []]
noncomputable abbrev Wr:S:= .re (ae (.du [.l 5,.cj .Eq (.at (.l 6) 12) (.c (.str [102,117,110,99,116,105,111,110]))]))
noncomputable def Nf:gZ->av (be×ag gZ)
 | .For _ c b _ _=>ae (c,b)
 |_=>ax
noncomputable def SM:gZ->av (ag gZ)
 | .Try b _ _ _ _=>ae b
 |_=>ax
noncomputable def Z.full(z:Z)(C:Cy)(b e:bk)(d:D):Z:={z with G:={z.G with d₀:= .cell (ae (.ref b)),xM:=λi=>if i=d then ae (b,e) else ax},C:=C}
theorem AT{a:rP}{c f:bR}{h g i:gz}{j:D}{e:be}(k1:a.kindOf c=ae .cell):uq [.Tuple [.Name c h,.Name f g] j i] e a=pure ax:=by
 cases e with
 |Tuple k b q=>
  have n:∀l,([Expr.Name c h,Expr.Name f g].filterMap λ
   | .Name id d=>if a.kindOf id==ae NameKind.local&&d.line==l then ae id else ax
   |_=>ax).length≠2:=λl=>by
   refine I oH ?_;dsimp only;exact I k1 (cr (cR (List.length_filterMap_le ..) (show 1<2 by decide)))
  unfold uq;dsimp only [pure_bind];split
  ·rfl
  split
  ·rfl
  exact cw (I (hP ..) (.inl (tB.mpr (n _))))
 |_=>rfl
section
variable{z:Z}{Lc:bS}{H:Mi.H}
theorem Z.wp.as{z:Z}{α:Type}{t:nE α}{W:α->aA->Prop}{E:ay->aA->Prop}{s:aA}(c:¬z.C.X)(h:z.wp t W s):cP z.cl z.G.M z.A t W E s:=fx h (λa a x=>x) λa a b=>DU b λa a a a a a x=>cq x c
theorem Lg{ρ:fD}{b:D}{a:bk×bk}(h:ρ[b]? =ae a)(i:D)(p:bk×bk)(e:(if i=b then ae a else ax)=ae p):ρ[i]? =ae p:=by
 by_cases y:i=b
 ·rw[cw y] at e;exact y▸h.trans e
 ·rw[bG y] at e;exact nn e
theorem zq.full{G:Gl}{A:cG}{ρ:fD}{h g:cW}(s:zq G A iN ρ h){d:Data}(c:∀b o,b≠G.L₀->h.get? b=ae o->g.get? b=ae o)(a:∃o,g.get? G.L₀=ae o/\o.data=d/\∀q,o.data≠.fields q)(v:∀l,A.frames=ae l->∀e∈l,∀L,e.frame=ae L->L≠G.L₀){j:D->av (bk×bk)}(t:∀n p,j n=ae p->ρ[n]? =ae p):zq {G with d₀:=d,xM:=j} A iN ρ g where
 fr:=kh s.fr λi k u r=>(bQ i k (lK (Y:=(·=G.L₀)) u (v i k) λb o e n=>c b o n e) r)
 qJ:=a
 nl:=s.nl
 x _ w:=w.elim
 xM:=t
theorem zx.full{G d:Gl}{a:ag bR}{L:bk}{ρ:fD}{Lc:bS}{h e:cW}(x:zx G a L ρ Lc h)(c:∀b o,b≠G.L₀->h.get? b=ae o->e.get? b=ae o)(q:d.T=G.T)(p:d.hb=G.hb)(l:d.L₀=G.L₀):zx d a L ρ Lc e where
 ns:=q▸by obtain⟨⟨m,⟨o,j,k,i,f⟩,g⟩,_,_,n⟩:=x;exact(aW m (oK o j k (c _ _ n i) f) g)
 nl:=x.nl
 lo:=p▸x.lo
 ne:=l▸x.ne
theorem Pt.full(q:Pt z Lc H){C:Cy}{g l:bk}{j:D}{c:cW}(lo:z.G.hb.get? z.G.L₀=ax)(n:∀k,z.A.frames=ae k->∀e∈k,∀L,e.frame=ae L->L≠z.G.L₀)(m:c.IsCell z.G.L₀ (ae (.ref g)))(a:∀b o,b≠z.G.L₀->q.h.get? b=ae o->c.get? b=ae o)(f:q.ρ[j]? =ae (g,l)):
  ∃i:Pt (z.full C g l j) Lc H,i.s=up z.b c q.tk/\i.ρ=q.ρ:=
 (aW ⟨⟨c,q.tk,q.ρ,q.gB.other q.jO.nl lo a,q.jO.full a (aM m λo e d=>(bQ o e d (λp w=>nomatch d.symm.trans w))) n (Lg f)⟩,q.fst.full a J J J⟩ J J)
theorem Oi(F:z.Ok){a:be}{me:E}{m u:bR}{M a2 B c:gz}{K j t:D}(x:gh z a me)(hc:kP a=am)(k1:z.aJ.kindOf m=ae .cell)(cc:z.aJ.cells.lookup m=ae z.G.L₀)(d0:z.G.d₀= .cell ax)(hj:z.aU[j]? =ae u)(lo:z.G.hb.get? z.G.L₀=ax)
  (ff:∀fs,z.A.frames=ae fs->∀e∈fs,∀L,e.frame=ae L->L≠z.G.L₀) {C:Cy} (nX:¬C.X) (F2:∀i f,(z.full C i f t).Ok) {vw:V} {W:Bw->aA->Prop} (p:Pt z Lc H) {R:Mi.H->Prop}
  (he:(wE z.C me).1 Lc (λv h=>∃n,v= .ref n/\h[n]? =ae (.bq [.ref t,vw])/\R h) H) (k:∀N i f (q:Pt (z.full C i f t) (cx Lc j vw) N),R N->W .next q.s):
  z.wp (GH (.Assign [.Tuple [.Name m M,.Name u a2] K B] a c) z.aJ) W p.s:=by
 refine I (mG ..) (I (show CX [.Tuple [.Name m M,.Name u a2] K B] a c.line z.aJ=pure ai from lC hc (ae (.Tuple [.Name m M,.Name u a2] K B)) c.line z.aJ) (I (AT k1) (.cC (.bind (.pure (cM aC (.bind (x _ _ p _ _ he λN q v y l r ⟨n,en,g,hR⟩=> .bind (.pure ?_)))))))));revert r;refine I en λr=>?_;refine(?_ :z.wp (ur (.Tuple [.Name m M,.Name u a2] K B) z.aJ y>>=λx_=>pure J0) W q.s);refine I tW (.bind (.cC (.bind (.fE (.of (sX F q r (g) J λP zs l2 rs=>hV zs rs.uT λzb zw Q=>cv Q λw hw=>?_))))));refine cY w λi f d S=>?_;refine I d (kh P.jO.qJ λoc T U x_=> .bind (.fE (.cC (.of (wpAny_bindName (wpAny_storeName_cell F.en.kind k1 cc (aW oc T (U.trans d0)) λh3 Y O=>aM (P.full (C:=C) lo ff Y (λb o t e=>(O.2 b t).trans e) S) λq3 es eρ=>(?_ :z.wp _ _ (up z.b h3 P.tk))))))));refine I (aQ es) (.bind (.fE (aG (fR (Z.wp.as (z:=z.full C i f t) nX (nJ (F2 i f) q3 hj (eρ.symm▸hw) λq4 l4=>?_))))));exact .pure (.pure (k N i f q4 hR))
end
structure qo(aJ:rP)(L:bk):Prop where
 kind:aJ.scope.kind= .function
 names:aJ.scope.names=fS
 Hi:aJ.locals=L
 iS:aJ.globals=eQ
 blt:aJ.builtins=rO
noncomputable abbrev Cb(W:Prop)(a:aD)(n:D):Cy:=⟨P.K,P.fld,P.fI,P.call a W n,W,a⟩
noncomputable abbrev Zw(G:Gl)(cl:aD)(A:cG)(K:pq)(C:Cy)(aJ:rP)(L:bk)(b:aA):Z:=⟨G,cl,A,K,C,mq,qK fS,aJ,L,b⟩
theorem IC:∀(i:D) x,mq[i]? =ae x->fS.lookup x=ae .local:=λi x h=>(by decide+kernel:∀x∈mq,fS.lookup x=ae .local) x (bI h)
section
variable{G:Gl}{A:cG}{K:pq}{aJ:rP}{L:bk}{b:aA}{cl:aD}{W:Prop}{n:D}{C:Cy}
theorem Ps(E:qo aJ L):ul G mq aJ L:=⟨E.kind,E.Hi,λi x h=>by refine(?_ :aJ.scope.names.lookup x=_);exact I E.names (IC i x h),by decide+kernel,E.iS,E.blt⟩
theorem Dh(T:m6 G K TX)(R:Rm A n)(E:qo aJ L)(d:C.ba=cl)(j:Fw G C.K)(fl:C.fld=P.fld)(i:C.fI=P.fI)
  (cX:∀{Lc H} (p:Pt (Zw G cl A K C aJ L b) Lc H) (v:V) (g:ag V) (x:ay) (e:ag ay) Q U,p.vr v x->iD G.T p.ρ g e->C.call v g Q H->(∀v k,Q v k->p.To U v k)->(Zw G cl A K C aJ L b).wp (cX x e) U p.s):(Zw G cl A K C aJ L b).Ok where
 fV:=by refine(?_ :FA G K C.fld C.fI);exact I fl (I i T.fV)
 ko:=j
 hv:=T.hv
 nm:=T.nm
 en:=Ps E
 un:=by refine(?_ :A.units+100<_);exact gC 0xd82a1c380bc2a20528a41400 J R.un
 hd:=R.hd
 ba:=d
 sm:=T.sm
 iS id v h:=jq h λa h=>⟨by refine(?_ :aJ.scope.names.lookup id=_);exact I E.names (a6.mp a),T.iS id v h⟩
 keep id v h hc:=T.keep id v (BX h).2 hc
 om:=by refine(?_ :∀c a f,C.fI c a=_->_);exact I i T.om
 call:=cX
theorem xQ(T:m6 G K TX)(R:Rm A n)(E:qo aJ L):(Zw G cl A K (Cb W cl n) aJ L b).Ok:=
 Dh T R E J T.ko J J (@jI.call TX W cl n (Jk (X:=TX) (W:=W) (ba:=cl) n).1 (Zw G cl A K (Cb W cl n) aJ L b) T J R J)
end
theorem qb{aJ:rP}{x:bR}{k:vN}(d:k≠.free):∀{a:ag (bR×vN)},a.lookup x=ae k->
  (a.map λ(n,k)=>if(k==T3&&aJ.scope.kind== .function&&aJ.kindOf n==ae .cell) then(n,T4) else(n,k)).lookup x=ae k:=by
 intro a;induction a with
 |nil=>exact λh=>nomatch h
 |cons p r c=>
  intro h;refine(?_ :jK x ((if(p.2==T3&&aJ.scope.kind== .function&&aJ.kindOf p.1==ae .cell)=true then(p.1,T4) else(p.1,p.2))::_)=_);have h:(match x==p.1 with|true=>ae p.2|false=>jK x r)=ae k:=h;cases b:x==p.1 with
  |true=>
   rw[b] at h;refine I (si h) ?_;rw[aK.mpr d,vS,vS,bG aC,fY,b]
  |false=>
   rw[b] at h;have c:=c h;split
   ·exact I fY (I b c)
   ·exact I fY (I b c)
theorem Di{z:Z}(F:z.Ok){g:jY}{km:ag (bR×bk)}{m:bk}{d:ag bR}{b:ag (bR×vN)}{C:Cy}(k:C.ba=ai)(w:g.kind= .function)(r:g.names=b)(q:∀x∈d,b.lookup x=ae .local)(u:d.Nodup)(j:∀id v,qK b id=ae v->z.gl id=ae v/\b.lookup id=ae .globalImplicit)
  (l:C={z.C with call:=C.call,X:=C.X,ba:=C.ba}) (e:∀{Lc H} (p:Pt (z.comp g km m d (qK b) C) Lc H) (v:V) (o:ag V) (x:ay) (n:ag ay) Q U,p.vr v x->iD z.G.T p.ρ o n->C.call v o Q H->(∀v t,Q v t->p.To U v t)->(z.comp g km m d (qK b) C).wp (cX x n) U p.s):(z.comp g km m d (qK b) C).Ok where
 fV:=by refine(?_ :FA z.G z.K C.fld C.fI);exact I l F.fV
 ko:=by refine(?_ :Fw z.G C.K);exact I l F.ko
 hv:=F.hv
 nm:=F.nm
 en:=⟨w,rfl,λi x h=>qb (aa J) (I r (q x (bI h))),u,F.en.iS,F.en.blt⟩
 un:=F.un
 hd:=F.hd
 ba:=k
 sm:=F.sm
 iS id v h:=⟨qb (aa J) (I r ((j id v h).2)),(F.iS id v (j id v h).1).2⟩
 keep id v h:=F.keep id v (j id v h).1
 om:=by refine(?_ :∀c a f,C.fI c a=_->_);exact I l F.om
 call:=e
theorem M2{b:ag (bR×vN)}(h:∀p∈b,p.2= .globalImplicit->fS.lookup p.1=ae .globalImplicit):∀id v,qK b id=ae v->qK fS id=ae v/\b.lookup id=ae .globalImplicit:=λid v g=>by
 refine jq g λa g=>?_;have a:=a6.mp a;refine⟨?_,a⟩;unfold qK;exact I (h (id,.globalImplicit) (mem_of_lookup a) J) g
section
variable{z:Z}
theorem MN(F:z.Ok){a:ag bR}{e:bR->av V}(f:z.aU=a)(g:z.gl=e){id:bR}{m:E}{b:gz}(h:BZ a e id=ae m):ww z (.Name id b) m:=by
 refine jq h λd h=>?_;rw[bc] at d;cases c:ix a id with
 |some j=>rw[c] at h;exact sb (si h) (gn F J (A8 F (I f (j6 c)) d) J)
 |none=>
  rw[c] at h;exact eA h λv i h=>sb (si h) (gn F J (pK F (I g i) d) J)
theorem G9(F:z.Ok){b:ag bR}{e:bR->av V}(g:z.aU=b)(i:z.gl=e)(j:∀a s,TX.attrs[a]? =ae s->z.G.T.dK a=s)(f:∀d,gh z (.Name "box" d) (.c (.ref 3))):qC z ⟨b,e,TX.attrs,zm b e,none⟩ where
 aU:=g
 gl id v h:=I i h
 attrs:=j
 nm id m d h:=by
  have h:zm b e id=ae m:=h;unfold zm at h;by_cases y:id=("box":bR)
  ·rw[a6.mpr y,cw J] at h;obtain rfl:=si h;exact I y (gn F J (f d) J)
  ·rw[aK.mpr y,bG aC] at h;exact MN F g i h
theorem FP(F:z.Ok){b:ag bR}{c:bR->av V}(d:z.aU=b)(e:z.gl=c)(f:∀a s,TX.attrs[a]? =ae s->z.G.T.dK a=s):qC z ⟨b,c,TX.attrs,BZ b c,none⟩ where
 aU:=d
 gl id v h:=I e h
 attrs:=f
 nm id m pos h:=MN F d e h
end
structure um(G:Gl)(aJ:rP):Prop where
 kind:aJ.kindOf "box"=ae .cell
 cell:aJ.cells.lookup ("box":bR)=ae G.L₀
 full:∃ab db,G.d₀= .cell (ae (.ref ab))/\G.xM 3=ae (ab,db)
abbrev f4(C:Cy):V->P1->H->Prop:=λv Q=>NY C v (.n 0) (cE 1 ax) λa=>(wE C Tx).1 a Q
abbrev f5(C:Cy):V->P1->H->Prop:=λv Q=>NY C v (.tu [0,1]) (cE 2 ax) λa=>(wE C Av).1 a Q
section
variable{G:Gl}{A:cG}{K:pq}{aJ:rP}{L:bk}{b:aA}{cl:aD}{W:Prop}{n:D}{C:Cy}
theorem HB{z:Z}(F:z.Ok)(B:um z.G z.aJ)(a:gz):gh z (.Name "box" a) (.c (.ref 3)):=cY B.full λf e d b=>KX F B.kind B.cell d b (by decide+kernel)
theorem vh(T:m6 G K TX)(F:(Zw G cl A K C aJ L b).Ok)(B:um G aJ):qC (Zw G cl A K C aJ L b) qc:=G9 F J J T.attrs λa=>HB F B a
theorem IE(T:m6 G K TX)(R:Rm A n)(F:(Zw G ai A K (Cb bA ai n) aJ L b).Ok)(E:qo aJ L)(B:um G aJ){h o:be}{c:jY}{s p a f:gz}(t:oj o=am)(hi:gV qc 40 o=ae (.l 1))(q:c.kind= .function)(e:c.names=jp)(g:(p.line==a.line)=am)(u:gV MB 40 h=ae Tx):
  zt (Zw G ai A K (Cb bA ai n) aJ L b) (tZ G.T) (GH (.Assign [.Name "rows" p] (.ListComp h [⟨.Name "word" s,o,[],0⟩] c a) f) aJ) (λL Q=>rS P.K (wE (Cb bA ai n) (.l 1)).1 (f4 (Cb bA ai n)) L λv=>Q .next (cx L 3 v)):=by
 have d:P6 c aJ=pure [(("box":bR),G.L₀)]:=by
  unfold P6
  refine I e ?_
  unfold jp cellOf
  simp[B.cell]
 refine Ap F J (km:=[(("box":bR),G.L₀)]) (aU:=["word"]) (gl:=qK jp) (C:=Cb bA ai n) (j:=3) J J id t d q (by refine I e ?_;decide+kernel) (by refine I e ?_;decide+kernel) (by refine I e ?_;decide+kernel) g (gU F (vh T F B) 40 _ _ hi).1 λr x=>?_;have m:((Zw G ai A K (Cb bA ai n) aJ L b).comp c [(("box":bR),G.L₀)] r ["word"] (qK jp) (Cb bA ai n)).Ok:=Di F J q e (by decide+kernel) (by decide+kernel) (M2 (by decide+kernel)) J (@jI.call TX bA ai n (Jk (X:=TX) (W:=bA) (ba:=ai) n).1 _ T J R J);have w:um G (compEnvC c [(("box":bR),G.L₀)] r aJ):=by
  refine⟨?_,rfl,B.full⟩
  refine(?_ :(c.names.map λ(n,k)=>if(k==T3&&aJ.scope.kind== .function&&aJ.kindOf n==ae .cell) then(n,T4) else(n,k)).lookup ("box":bR)=ae .cell)
  refine I e ?_;refine I E.kind ?_
  unfold jp
  simp[B.kind]
  rfl
 exact⟨m,nC.mk (qX m (i:=0) J) (gU m (G9 m J J T.attrs λa=>HB m w a) 40 _ _ u).1⟩
theorem EK(T:m6 G K TX)(F:(Zw G ai A K (Cb bA ai n) aJ L b).Ok)(R:Rm A n)(E:qo aJ L)(B:um G aJ){a g h:be}{d:jY}{f:gz}(k:oj g=am)(hi:gV qc 40 g=ae (.l 3))(i:d.kind= .function)(e:d.names=kU)(j:Jh BH 40 h=ae (.tu [0,1]))(m:gV BH 40 a=ae Av):
  SE (Zw G ai A K (Cb bA ai n) aJ L b) (zN (.ListComp a [⟨h,g,[],0⟩] d f) aJ) (rS P.K (wE (Cb bA ai n) (.l 3)).1 (f5 (Cb bA ai n))):=by
 refine KV F J (km:=[]) (aU:=["word","is_behind"]) (gl:=qK kU) (C:=Cb bA ai n) J id k (closureFor_none (by refine I e ?_;decide+kernel)) i (by refine I e ?_;decide+kernel) (by refine I e ?_;decide+kernel) (gU F (vh T F B) 40 _ _ hi).1 λo p=>?_;have c:((Zw G ai A K (Cb bA ai n) aJ L b).comp d [] o ["word","is_behind"] (qK kU) (Cb bA ai n)).Ok:=Di F J i e (by decide+kernel) (by decide+kernel) (M2 (by decide+kernel)) J (@jI.call TX bA ai n (Jk (X:=TX) (W:=bA) (ba:=ai) n).1 _ T J R J);exact⟨c,nC.mk (C9 c (FP c J J T.attrs) j) (gU c (FP c J J T.attrs) 40 _ _ m).1⟩
end
end Mi
end
section
namespace Mi
open PySem PySem.W PySem.Calls PyProof.Rows
open Builtin Builtin.Str
noncomputable def wH:bR:=⟨#[]⟩
theorem vW:∀(a:ag bR),(Str.join wH a).cps.toList=(a.map (·.cps.toList)).flatten
 |[]=>rfl
 |[x]=>by refine(?_ :x.cps.toList=_);simp
 |x::y::r=>by
  refine(?_ :((x.cps++ #[])++(Str.join wH (y::r)).cps).toList=_);exact I iG (I Array.append_empty (I (vW (y::r)) (I im (I qF J))))
theorem EM(ts:ag bR):(PySem.Txt.join wH ts).cps.toList=(ts.map (·.cps.toList)).flatten:=by
 refine(?_ :(glued wH ts).cps.toList=_);exact I (StrLaws.glued_eq_join ..) (I (vW ..) J)
theorem Ly{a:ag bR}(h:((a.map (·.cps.toList)).flatten).length<=dW):JoinOk wH a=am:=by
 unfold JoinOk;refine I (StrLaws.joinTotal ..) ?_;have e:((a.map (·.cps.toList)).flatten).length=(a.map (·.length)).sum:=by
  refine I List.length_flatten ?_;refine I pB ?_;rfl
 refine(?_ :(!decide ((a.map (·.length)).sum+a.length*0>iI))=am);exact I fp (I (aO (U3 h e)) J)
theorem AM{T:kq}{ρ:fD}:∀{b:ag (ag D)} {a:ag ay},iD T ρ (b.map .str) a->∃c:ag (bR×Tok),a=strValues c/\c.map (·.1.cps.toList)=b:=by
 intro b;induction b with
 |nil=>intro a q;cases q;exact(aW ([]) J J)
 |cons i r g=>
  intro a q;cases q with
  |cons h t=>
   refine cY h λ_ _ d _=>?_;rename_i y u h;exact I d (aM (g t) λc f e=>aW ((y,u)::c) (I f J) (I (aQ e) (I (aQ h) J)))
section
variable{z:Z}{Lc:bS}{H:Mi.H}
theorem E9(F:z.Ok)(p:Pt z Lc H){y:bR}{t:Tok}(j:y.cps.toList=[]){v:V}{x:ay}{b:ag (ag D)}(m:p.vr v x)(g:Look z.C.K H v (.list (b.map .str)))(o:b.flatten.length<=dW){W:ay->aA->Prop}(k:p.To W (.str b.flatten) H):z.wp (cX (.builtin "str.join") [.str y t,x]) W p.s:=by
 obtain⟨c⟩:=y
 obtain rfl:c= #[]:=Array.toList_eq_nil_iff.mp j
 refine p.iP x F.ko m g λa d w=>?_
 refine fy w λA h f u=>aM (AM f) λe r q=>?_
 have i:((e.map (·.1)).map (·.cps.toList))=b:=by refine I pB ?_;exact q
 refine .of (SC.join (x:=wH) (l:=e) (texts:=e.map (·.1)) (I (aQ r) h) J (Ly (by exact I i o)) λB n=>k.p0.val (dO _ _ rfl ?_) n)
 exact I (EM ..) (I i J)
theorem KU(F:z.Ok){e:be}{m:wV}{x:bR}{S:D}{M n j:gz}(U:x.cps.toList=[])(f:(n.endLine==j.line)=am)(X:eJ e=am)(w:SE z (eval e z.aJ) m):
  SE z (eval (.Call (.Attribute (.Constant (.str x) S M) "join" n) [e] [] j) z.aJ) (λL Q=>m L λv h=>∃a:ag (ag D),Look z.C.K h v (.list (a.map .str))/\a.flatten.length<=dW/\Q (.str a.flatten) h):=λLc H p Q W h k=>by
 refine I (qN ..) ?_;rewrite[j9 J];refine I (eX (I ju (I X J))) (.bind (vt F (c:= .str x) (v:= .str x.cps.toList) J _ _ p (λu h'=>u=V.str x.cps.toList/\h'=H) _ ⟨rfl,rfl⟩ λH1 q N o l r e1=> .cC ?_));revert r;refine ou N e1 λd=>λr=>?_;revert p h k l;refine sb d λp h k l=>hV o r λy t T=>?_;refine mO f (by refine(?_ :1<30);exact ac J) (λpl Q E q=>GM.join q) (og (P:=z.K.In) (λh hK=>(aW .machine (.inr J) Looks.now)) (?_ :z.wp (pF ((ai,eval e z.aJ)::eR [] z.aJ)) _ q.s));rewrite[pF];refine .bind (w _ _ q _ _ h λx_ i v y2 R B b=>kh b λa g Y Z=>?_);exact .bind (.pure (.bind (.fE (.pure (.pure ⟨i.zG F,E9 F i (T.trans U) B g Y λG y O A=>k _ G _ y (l.trans (R.trans O)) A Z⟩)))))
theorem KM(F:z.Ok){e:be}{m:wV}{x:bR}{j:D}{b a:gz}(n:z.aU[j]? =ae x)(o:kP e=am)(f:SE z (eval e z.aJ) m):zt z (tZ z.G.T) (exec (.Assign [.Name x b] e a) z.aJ) (λL Q=>m L λv=>Q .next (cx L j v)):=λLc H p Q W h k=>by
 refine I (mG ..) (I (show CX [.Name x b] e a.line z.aJ=pure ai from lC o (ae (.Name x b)) a.line z.aJ) ?_);rewrite[kW J];refine .cC (.bind (.pure (cM aC (.bind (f _ _ p _ _ h λc q v d l r h=> .bind (.pure (?_ :z.wp (ur (.Name x b) z.aJ d>>=λc=>pure J0) W q.s)))))));exact .bind (qX F n _ _ q v d (λt u=>Q .next t u) _ h r λc c g i h=> .pure (k _ _ g _ _ (l.trans i) .next h))
end
end Mi
end
section
namespace Mi
open PySem PySem.W PySem.Calls PyProof.Rows
open Sem (wp)
theorem qV{cl:aD}{M:lP}{A:cG}{E:ay->aA->Prop}{s:aA}{aJ:rP}{body orelse:nE Bw}{h₀:ExceptHandler}{hs:ag ExceptHandler}{Q:Bw->aA->Prop}
  (h:cP cl M A body (λf s₁=>match f with| .next=>cP cl M A orelse Q E s₁|f=>Q f s₁)
   (λe s₁=>cu M A (jL e aJ) (λx_ s₂=>cu M A (setFlight e ax) (λx_ s₃=>cu M A (handleBy e aJ (h₀::hs)) Q E s₃) E s₂) E s₁) s):
  cP cl M A (tryStmt ai body (h₀::hs) orelse [] aJ) Q E s:=by
 unfold tryStmt;refine aG (AK (fx h (λf s₁ h₁=>?_) λe s₁ h₁=>?_))
 ·cases f<;>first|exact h₁|exact aX h₁
 ·exact .of (aB (iX h₁ (λx_ x_ h₂=>aB h₂) λx_ x_ x=>x))
structure sH(hb:cW)(aJ:rP)(L e:bk)(X:ay)(m:bR->av ay)(h:cW):Prop where
 mK:hb.StaysIn h
 fr:h.FunFrames hb [aJ]
 tr:∃a0 fl,h.TracedAtW hb e X a0 fl
 ns:h.Ns L m
theorem sH.Hm{M:lP}{A:cG}{E:ay->aA->Prop}{s:aA}{f:cW}{a:rP}{L e:bk}{X:ay}{m:bR->av ay}{Q:xj->aA->Prop}(c:sH f a L e X m s.heap)
  (q:∀b,sH f a L e X m b->Q () {s with heap:=b}):cu M A (setFlight (.ref e) ax) Q E s:=by
 obtain⟨w,v,⟨x,B,u⟩,t⟩:=c;refine wpAny_setFlight_noneW w v u λb k j i h=>q b ⟨k,j,(DT x .none i.at),GW t λo l n r g p=>?_⟩;exact Mh o l n (h _ _ r (λy z=>by rw[g] at z;cases z)) g p
theorem AV{d:dZ}{w:dj}{A:cG}{E:ay->aA->Prop}{s:aA}{g:cW}{K:pq}{a:rP}{L e:bk}{X B:ay}{m:bR->av ay}{y j i o n:gz}{b:aD}{Q:Bw->aA->Prop}
  (In:K.In g) (F:exmOne K X B=ae am) (r:a.scope.kind= .function) (H:a.locals=L) (N:a.globals=eQ) (C:a.kindOf "LuaError"=ae .globalImplicit) (z:a.kindOf "is_let"=ae .local)
  {p:bR->av ay} (ng:g.Ns eQ p) (R:p "LuaError"=ae B) (G:m "is_let"=ae (.bool b)) (c:sH g a L e X m s.heap) (l:(JZ e)≠byPass)
  (q:∀h tk,sH g a L e X m h->Q (.ret (.bool (!b))) {s with heap:=h,toks:=tk}):
  cu (bP d w) A (handleBy (.ref e) a [.ExceptHandler (ae (.Name "LuaError" y)) ax [.Return (ae (.UnaryOp .Not (.Name "is_let" j) i)) o] n]) Q E s:=by
 refine wpAny_handleBy_cons (codeAny_handlers_test ?_) l;refine I (jM ..) (aB (fA (cM (aa J) (I (loadName_read r C) (P8 (I N (ng.keeps c.mK)) R ?_)))));have LT:kz (bP d w) s.heap (typeOf (.ref e)) X:=by
  refine GV c.tr λZ Y V S k=>?_;refine GW k λT W U O f x=>?_;refine cv f λP x=>?_
  refine sb P ?_
  exact(Looks.ld O).andThen .now
 refine(exm_one (M:=bP d w) (In.keeps c.mK) LT F).at (?_ :tR (bP d w) (A.mark (ae (.ref e))) (.handlers (.ref e) [.ExceptHandler ax ax [.Return (ae (.UnaryOp .Not (.Name "is_let" j) i)) o] n] a) _ s);refine codeAny_handlers_suite (c.Hm λh u=>I (ic ..) (I (NM ..) (aB (aB (fA (?_ :cu _ _ (zN (.UnaryOp .Not (.Name "is_let" j) i) a>>=λv=>pure (Flow.ret v)) _ _ _))))));exact I (arm_eval_UnaryOp ..) (I (jM ..) (aB (aB (aB (fA (cM (aa J) (kB r z (I H u.ns) G (aB (fA (CV (not_value (aP (aP (aP (q h s.toks u)))))))))))))))
end Mi
end
section
namespace Mi
open PySem PySem.W PySem.Calls PyProof.Rows
section
variable{p:dZ}{w:dj}{sa:bk}{hb:cW}{L₀:bk}{d₀:Data}{c:D->av (bk×bk)}{A:cG}{K:pq}{aJ:rP}{L:bk}{b:aA}{X:Prop}{n:D}{Lc:bS}{H:Mi.H}
theorem Oh(T:∀L₀ d₀ c,m6 (GG p w sa hb L₀ d₀ c) K TX)(R:Rm A n)(E:qo aJ L)(B:um (GG p w sa hb L₀ d₀ c) aJ)(N:A.frames=ae [aJ])(LE:aJ.frame=ae L){Bv:ay}(U:exmOne K (.ref (gY 2)) Bv=ae am){mg:bR->av ay}(ng:hb.Ns eQ mg)(gE:mg "LuaError"=ae Bv)
  {j:ag be} (t:j.all eJ=am) (h7:qi (gV qc 40) j=ae Pd) {bl:aD} (h5:Lc[5]? =ae (ae (.bool bl))) (q:Pt (Zw (GG p w sa hb L₀ d₀ c) am A K (Cb bA am n) aJ L b) Lc H)
  {y np cp ap p1 p2 p3 p4 p5 tp:gz} {Q:Bw->aA->Prop} {Ee:ay->aA->Prop} {R2:V->Mi.H->Prop} (h:oh (Cb bA am n) Pd Lc (λG h=>P.call am X n (.fn 97) G R2 h) H)
  (Fr:∀v H2 (d:Pt (Zw (GG p w sa hb L₀ d₀ c) am A K (Cb bA am n) aJ L b) (cx Lc 6 v) H2),R2 v H2->Q .next d.s) (GE:X->∀h2 tk,hb.StaysIn h2->Q (.ret (.bool (!bl))) (up b h2 tk)):
  cP am (bP p w) A (GH (.Try [.Assign [.Name "found" y] (.Call (.Name "parse_tree" np) j [] cp) ap] [.ExceptHandler (ae (.Name "LuaError" p1)) ax [.Return (ae (.UnaryOp .Not (.Name "is_let" p2) p3)) p4] p5] [] [] tp) aJ) Q Ee q.s:=by
 have F:(Zw (GG p w sa hb L₀ d₀ c) am A K (Cb bA am n) aJ L b).Ok:=xQ (T _ _ _) R E
 refine I (arm_exec_Try ..) (aG (fR (qV (I (ic ..) (I (mG ..) (I (lC (e:= .Call (.Name "parse_tree" np) j [] cp) J (ae (.Name "found" y)) ap.line aJ) (I (kW J aJ) (aG (aG (fR (aG (aX (cM aC (aG (?_ :cP am (bP p w) A (zN (.Name "parse_tree" np) aJ>>=λf=>vM cp f [] (P7 cp (rJ j aJ)) []) _ _ _)))))))))))))))
 refine I (eX t) ?_
 have hg:qK fS "parse_tree"=ae (.fn 97):=by decide+kernel
 have nX:¬(Zw (GG p w sa hb L₀ d₀ c) am A K (Cb bA am n) aJ L b).C.X:=id
 refine aG (Z.wp.as (z:=Zw (GG p w sa hb L₀ d₀ c) am A K (Cb bA am n) aJ L b) nX (pK F hg (by decide+kernel) (pos:=np) _ _ q (λu h=>u= .fn 97/\oh (Cb bA am n) Pd Lc (λG h=>P.call am X n (.fn 97) G R2 h) h) _ ⟨rfl,h⟩ λH1 q1 u f l1 r hh=>?_))
 revert r;refine ou u hh λh=>λr=>?_;clear hh
 refine og (P:=K.In) (uG F r (F.keep ("parse_tree":bR) (.fn 97) hg J)) (Z.wp.as (z:=Zw (GG p w sa hb L₀ d₀ c) am A K (Cb bA am n) aJ L b) nX ((AI.es ((lX h7).imp λx_ x_ h=>(gU F (vh (T _ _ _) F B) 40 _ _ h).1)) _ _ q1 _ _ h λH2 d G xs l2 rs h=>⟨d.zG F,?_⟩))
 obtain⟨⟨m,⟨o,Y,ep,ho,hd,rr⟩,lr⟩,aj,Y8,XL⟩:=id d.fst
 refine aM (lr.2 5 "is_let" (.bool bl) J h5) λyb GT Id=>?_
 obtain rfl:yb= .bool bl:=Id
 have af:zq (GG p w sa hb L (.dict Y ep) c) A iN d.ρ d.h:=⟨d.jO.fr,(bQ o ho hd (λG z=>by rw[hd] at z;cases z)),aj,λx_ z=>z.elim,d.jO.xM⟩
 refine lB ((Jk (X:=TX) (W:=X) (ba:=am) n).1 (Zw (GG p w sa hb L (.dict Y ep) c) am A K (Cb X am n) aJ L b) (T _ _ _) J R ⟨d.h,d.tk,d.ρ,d.gB,af⟩ (.fn 97) G f xs R2 _ r rs.1 h (λv H3 hR k yv l3 r3=>?_) λe s ⟨a,h3,Ty,ee,ST,x,hX⟩=>?_)
 ·have fm:=l3
  have g:∃g:Pt (Zw (GG p w sa hb L₀ d₀ c) am A K (Cb bA am n) aJ L b) Lc H3,g.h=k.h/\g.tk=k.tk/\g.ρ=k.ρ:=(bQ ⟨⟨k.h,k.tk,k.ρ,k.gB,d.jO.fm fm⟩,d.fst.fm fm⟩ J J J)
  refine kh g λ_ _ _ _=>?_;clear g;rename_i g e1 e2 e3
  have Y:k.s=g.s:=by refine(?_ :up b k.h k.tk=up b g.h g.tk);refine I e1 ?_;refine I e2 ?_;rfl
  have r3:g.vr v yv:=by refine(?_ :VR _ g.ρ _ _);refine I e3 ?_;exact r3
  refine(?_ :(λv s'=>_) _ _)
  refine I Y (aG (aX (aG (Z.wp.as (z:=Zw (GG p w sa hb L₀ d₀ c) am A K (Cb bA am n) aJ L b) nX (qX F (i:=6) J _ _ g v yv (λL' H'=>L'=cx Lc 6 v/\H'=H3) _ ⟨rfl,rfl⟩ r3 λL5 H5 q5 l5 e5=>?_)))))
  obtain⟨rfl,rfl⟩:=e5
  refine aX (?_ :cP am (bP p w) A (nN [] aJ) _ _ _)
  exact I (C3 ..) (aX (aX (Fr v _ q5 hR)))
 ·subst ee ST
  refine pC x λY9 a0 S O M=>?_;clear x
  rw[N] at S;cases S
  refine wpAny_looks_onW N LE O λh4 l up=>rQ l λf1 f2 f3 f4=>?_;clear l
  exact kh (M.slots up) λo' IO KK x_=>((⟨f1,f3,(DT a0 _ f4),(Mh o' Y ep IO KK rr)⟩):sH hb aJ L a (.ref (gY 2)) m h4).Hm λh5 c5=>AV F.fV.In U E.kind E.Hi E.iS (by refine(?_ :aJ.scope.names.lookup _=_);refine I E.names ?_;decide+kernel) (F.en.var 5 _ rfl) ng gE GT c5 (by intro z;cases z) λh6 tk c6=>GE hX h6 tk c6.mK
end
end Mi
end
set_option backward.match.sparseCases true
section
namespace Mi
open PySem PySem.W PySem.Calls PyProof.Rows
open Sem (wp)
set_option backward.match.sparseCases false in
noncomputable def LS:gZ->ag gZ
 | .FunctionDef _ _ b _ _ _ _ _ _ _=>b
 |_=>[]
noncomputable def pM:ag gZ:=((pw.main.body[113]?).map LS).getD []
structure SQ(fd:gQ):Prop where
 kind:fd.scope.kind= .function
 names:fd.scope.names=fS
 co:fd.scope.isCoroutine=ai
 zg:fd.scope.isGenerator=ai
 body:fd.body= .stmts pM
 km:fd.closure=[]
 iS:fd.globals=eQ
 blt:fd.builtins=rO
theorem xW(n:D):cellsFrom n fS []=[(("box":bR),n)]:=by
 rfl
theorem IX{C:aD}{d:dZ}{w:dj}{A:cG}{s:aA}{a:bk}{o:A2}{fd:gQ}{x:ay}{R:lH->aA->Prop}(c:SQ fd)(i:A.depth<nM)(L:s.heap.get? a=ae o)(j:o.data= .func fd)(q:s.heap.NoLimit)(B:s.heap.CodeRec fd.code fd.qualname)
  (k:bindArgs fd ⟨[x],[]⟩=pure [(("script":bR),x)])
  (h:∀l tk m,l.Ns s.heap.objs.size m->m "script"=ae x->l.IsCell (s.heap.objs.size+1) ax->(∀b o,s.heap.get? b=ae o->l.get? b=ae o)->
   cP C (bP d w) (A.deeper (callEnvC fd s.heap.objs.size a)) (nN pM (callEnvC fd s.heap.objs.size a)) (λf r=>R (.ok (.ret (match f with| .ret v=>v|_=> .none))) r)
    (λe r=>cP C (bP d w) (A.deeper (callEnvC fd s.heap.objs.size a)) (GF (callEnvC fd s.heap.objs.size a) e) (λt g=>R (.error e) g) (λO g=>R (.error O) g) r) {s with heap:=l,toks:=tk}):
  fG C (bP d w) A (.call (.ref a) ⟨[x],[]⟩) R s:=by
 refine lg i L j c.co c.zg c.body B (I k (I c.km (aX (.of (wpAny_newFunctionEnv_cells c.kind (λy u=>?_) λN M r z=>?_)))))
 ·cases u with
  |head=>left;refine(?_ :fd.scope.names.lookup ("script":bR)=_);refine I c.names ?_;decide+kernel
  |tail _ u=>cases u
 ·revert z;refine I M λz=>?_;obtain⟨⟨⟨l,tk,rfl⟩,K,G,P⟩,p,E,F⟩:=z;refine⟨q.keeps G,vZ (h l tk _ K ?_ ?_ G)⟩
  ·refine(?_ :bindL (λn=>fd.scope.names.lookup n) [(("script":bR),x)] (λt=>ax) "script"=ae x);exact I c.names J
  ·have:=p "box" (s.heap.objs.size+1) (by refine(?_ :(cellsFrom (s.heap.objs.size+1) fd.scope.names []).lookup ("box":bR)=_);exact I c.names (I (xW ..) J));have this:l.IsCell (s.heap.objs.size+1) (bindC (λn=>fd.scope.names.lookup n) [(("script":bR),x)] (λt=>ax) ("box":bR)):=this;rwa [(show bindC (λn=>fd.scope.names.lookup n) [(("script":bR),x)] (λt=>ax) ("box":bR)=ax by exact I c.names J)] at this
end Mi
end
set_option backward.match.sparseCases false
section
namespace Mi
open PySem PySem.W PySem.Calls PyProof.Rows
noncomputable def R6:Rd:=⟨mq,qK fS,TX.attrs,BZ mq (qK fS),none⟩
noncomputable def dE:be:= .Name "" ⟨0,0,0,0⟩
noncomputable def xX(i:D):gZ:=(pM[i]?).getD (.Pass ⟨0,0,0,0⟩)
noncomputable def Fk(i:D):be:=((Ch (xX i)).map (·.2)).getD dE
noncomputable def B6(i:D):be:=(((Nf (xX i)).bind λx=>sB x.1).bind λc=>rz c.2.1).getD dE
noncomputable def Jv(i:D):ag gZ:=((Nf (xX i)).map (·.2)).getD []
noncomputable def QV(e:be):be×be×be×jY:=((vk e).bind λc=>(rz c.2.1).map λg=>(c.1,g.target,g.iter,c.2.2.1)).getD (dE,dE,dE,pw.main.scope)
noncomputable def HA:=QV (Fk 3)
noncomputable def DC:=QV (((sB (Fk 4)).bind λc=>rz c.2.1).getD dE)
noncomputable def Tj:ag be:=((((SM (xX 6)).bind rz).bind Ch).bind λy=>(sB y.2).map (·.2.1)).getD []
theorem ID:pM=[.Assign [.Tuple [.Name "box" ⟨1027,4,1027,7⟩,.Name "words" ⟨1027,9,1027,14⟩] 0 ⟨1027,4,1027,14⟩] (Fk 0) ⟨1027,4,1027,69⟩,
 .For (.Name "turn" ⟨1028,8,1028,12⟩) (.Call (.Name "range" ⟨1028,16,1028,21⟩) [B6 1] [] ⟨1028,16,1028,44⟩) (Jv 1) [] ⟨1028,4,1029,46⟩,
 .For (.Name "turn" ⟨1030,8,1030,12⟩) (.Call (.Name "range" ⟨1030,16,1030,21⟩) [B6 2] [] ⟨1030,16,1030,40⟩) (Jv 2) [] ⟨1030,4,1031,63⟩,
 .Assign [.Name "rows" ⟨1032,4,1032,8⟩] (.ListComp HA.1 [⟨.Name "word" ⟨1032,47,1032,51⟩,HA.2.2.1,[],0⟩] HA.2.2.2 ⟨1032,11,1032,61⟩) ⟨1032,4,1032,61⟩,
 .Assign [.Name "text" ⟨1033,4,1033,8⟩] (.Call (.Attribute (.Constant (.str "") 0 ⟨1033,11,1033,13⟩) "join" ⟨1033,11,1033,18⟩) [.ListComp DC.1 [⟨DC.2.1,DC.2.2.1,[],0⟩] DC.2.2.2 ⟨1033,19,1033,84⟩] [] ⟨1033,11,1033,85⟩) ⟨1033,4,1033,85⟩,
 xX 5,
 .Try [.Assign [.Name "found" ⟨1036,8,1036,13⟩] (.Call (.Name "parse_tree" ⟨1036,16,1036,26⟩) Tj [] ⟨1036,16,1036,67⟩) ⟨1036,8,1036,67⟩] [.ExceptHandler (ae (.Name "LuaError" ⟨1037,11,1037,19⟩)) ax [.Return (ae (.UnaryOp .Not (.Name "is_let" ⟨1038,19,1038,25⟩) ⟨1038,15,1038,25⟩)) ⟨1038,8,1038,25⟩] ⟨1037,4,1038,25⟩] [] [] ⟨1035,4,1038,25⟩,
 xX 7]:=by kernel_rfl
theorem MU:kP (Fk 0)=am/\gV R6 40 (Fk 0)=ae Ws:=⟨by kernel_rfl,by kernel_rfl⟩
theorem F4:eJ (B6 1)=am/\gV qc 40 (B6 1)=ae Tv/\qi (xD qc 40) (Jv 1)=ae QM:=(bX (by kernel_rfl) (by kernel_rfl) (by kernel_rfl))
theorem F3:eJ (B6 2)=am/\gV qc 40 (B6 2)=ae Tu/\qi (xD qc 40) (Jv 2)=ae QL:=(bX (by kernel_rfl) (by kernel_rfl) (by kernel_rfl))
theorem y9:oj HA.2.2.1=am/\gV qc 40 HA.2.2.1=ae (.l 1)/\HA.2.2.2.kind= .function/\HA.2.2.2.names=jp/\gV MB 40 HA.1=ae Tx:=(GU (by kernel_rfl) (by kernel_rfl) (by kernel_rfl) (by kernel_rfl) (by kernel_rfl))
theorem wI:oj DC.2.2.1=am/\gV qc 40 DC.2.2.1=ae (.l 3)/\DC.2.2.2.kind= .function/\DC.2.2.2.names=kU/\Jh BH 40 DC.2.1=ae (.tu [0,1])/\gV BH 40 DC.1=ae Av:=(GU (by kernel_rfl) (by kernel_rfl) (by kernel_rfl) (by kernel_rfl) ⟨(by kernel_rfl),(by kernel_rfl)⟩)
theorem R5:xD qc 40 (xX 5)=ae Tr:=by kernel_rfl
theorem MT:Tj.all eJ=am/\qi (gV qc 40) Tj=ae Pd:=⟨by kernel_rfl,by kernel_rfl⟩
theorem R4:xD qc 40 (xX 7)=ae Wr:=by kernel_rfl
theorem zk:Cl ⟨.builtin "claim.caller" {},none,none,[],none⟩:=⟨λa p=>by kernel_rfl,λx b=>(nomatch b)⟩
theorem CO{c:dZ}{w:dj}{t:nE Fin}{s:aA}{R:lH->aA->Prop}(q:s.asleep)
  (h:cP am (bP c w) callerA t (λg d=>∃f,g= .done f/\R (.ok f) d/\AllBare d.gens) (λe d=>R (.error e) d/\AllBare d.gens) s):
  ∃n r d k,runN (denote GD) c w n s ⟨t,.builtin "claim.caller" {},default,[]⟩= .halted (V6 r) d/\
   schedN (denote GD) c w n (.single s ⟨t,.builtin "claim.caller" {},default,[]⟩)= .halted (V6 r) d/\d.forget=k.forget/\R r k:=by
 refine Ql (wp_halts_full (M:=bP c w) (R:=R) q (zO _ _ _ (λg p d l=>by
  refine iu g l λf m=>?_;refine cv m λa b=>?_;refine(?_ :Sem.finPost _ _ _ (.done f) p d);exact⟨a,L8 b⟩) (λe p d l=>⟨l.1,L8 l.2⟩) _ _ (h _ default caller_in λy=>zk))) λn r j i u v o x=>?_;exact NV n r i j v u o x
theorem wq{c:ClaimW}{u:ag ay->nE Fin}{w:dj}{s:aA}{N:bk->Prop}{M:Prop}{z:cW->Prop}(W:s.asleep)(B:s.gens= #[])(X:∀h,z h)
  (A:∀a,c.pre a=am->WData.layableAll a=am->∀p:ag dX->ag dX,(∀l,(p l).Perm l)->
   ∃n g,layAllW c.records (AZ s.heap) w.params p a s=ae (n,g)/\
    cP am (bP c.prog w) callerA (u n) (λQ j=>∃f,Q= .done f/\(c.Ends s a n g (.ok f) j/\j.os=s.os)/\AllBare j.gens)
     (λe j=>(c.Ends s a n g (.error e) j/\j.os=s.os)/\AllBare j.gens) g):
  c.CallFrom (λn=>⟨u n,.builtin "claim.caller" {},default,[]⟩) w N M z s:=by
 intro a H L p K;refine cps λG V=>cY (A a H L p K) λn g m C=>rQ (layAllW_rest _ _ _ m) λt t t T=>Mk (CO (R:=λr j=>c.Ends s a n g r j/\j.os=s.os) (Shared.asleep_of_life T W) C) λk r j U F q P E O=>A4 (Shared.forget_eq P) λZ t t Y t=>V ⟨n,g,m,k,_,j,q,?_,(λt i x S=>by rw[B] at S;exact nn S),X _,aL _ ((runN_life _ _ _ F).trans T),Shared.rest_eq (Y.trans O)⟩;exact(E.congr Z).imp (.imp λv=> .imp (aL V6) (.imp_right (.imp_right (.imp_right (.imp_left λd b o y t=>d b o y))))) (.imp λx=> .imp λob=> .imp λaf=> .imp (aL V6) (.imp_right (.imp_right (.imp_right (.imp_right λd b o y t=>d b o y)))))
theorem EW{r:OpenRow}{q:dZ}{loose:ag bR}{α:Type}{Yf:aA->α}{Ya:dj->α}{YP:dj->cW->Prop}{d:DefRec}{K:ag (bR×be)}{N:D}
  (left:LeftO r.prog q loose (λm=>am) Yf Ya N) (hY:∀w s,Yf s=Ya w->YP w s.heap) (ST:∀w h h',YP w h->(∀b o,h.get? b=ae o->h'.get? b=ae o)->YP w h')
  (u:defOf q r.name=ae (d,K)) (hp:r.prog.theDef r.name=ae (d.params,d.body,d.scope)) (hk:kwWritten? d.params.kwonlyargs d.params.kw_defaults=ae K)
  (U:r.records=[]) (aj:r.writes=ai) (k1:r.wellSaid=am) (KK:chainsOk q=am) (ow:opensWell r.prog=am) (fr:frees r.toRowW=am) (Fr:r.within=[]) (hb:r.prog.bare) (hw:r.toRowW.promised)
  (cX:∀(w:dj) (j f:aA) (mg mb:bR->av ay),Ground q loose r.records (λm m=>JY) w j mg mb f.heap->YP w f.heap->∀(a:bk) (o:A2) (pm cd Q dV Z:ay),f.heap.get? a=ae o->
   o.data= .func {docDef d.name d.params d.body d.scope pm cd Q with defaults:=dV,kwdefaults:=Z}->f.heap.CodeRec cd d.name->Dflts mg f.heap d.params K dV Z->mg d.name=ae (.ref a)->f.gens= #[]->
   ∀(i:ag WData) (t:ag ay) (X:ag bk),r.toRowW.claim.pre i=am->WData.layableAll i=am->ReadsAllW r.records (AZ j.heap) f.heap t i X->WellAll w.params f.heap t i->(∀a∈X,(a==rI)=ai)->
    cP am (bP r.prog w) callerA (cX (.ref a) t) (λv p=>GoodWG r.toRowW.claim (AZ j.heap) (pH j.heap) i f (.ok (.ret v)) p)
     (λe p=>GoodWG r.toRowW.claim (AZ j.heap) (pH j.heap) i f (.error e) p) f):r.Holds:=by
 refine cps λG M=>A4 (frees_parts fr) λO hu ha LE hm=>M (bX k1 hw (bX (bX hb ow (by refine(?_ :r.makers.map _=[]);exact I hm J)) hw.witness (λw=>cps λG M=>cv (left.behind (XP:=λm m=>JY) (λm m=>trivial) KK w) λb1 b2=>M ⟨b1,λp GE=>cps λG M=>kh (b2 p GE) λj hf IO H=>NW H λs hT hz l hg S=>?_⟩)));refine cv S λG0 y=>?_;have RF:RecFacts r.records s.heap:=recFacts_nil U;have l:=BD (a6.mp l);have G:=RF.ground G0;refine M ⟨j,hf,IO,s,hT,λn hn=>?_,RF.1,RF.2.1,wq (c:=r.toRowW.claim) hz l (λm q=>by rw[aj] at q;exact ft q) λi B E F C=>?_⟩
 ·obtain rfl:n=r.name:=by split at hn<;>simp_all
  exact pinned_of_view hg G0 u hp hk
 ·refine cps λG' M=>cs (d8.mp (layAllW_isSome (P:=w.params) (ord:=F) G.has i r.args s (pre_splitW B).1)) λaf k=>?_;obtain⟨Y,f⟩:=af;refine rQ (layAllW_rest _ _ _ k) λh1 m h3 m=>?_;have keeps:=layAllW_keeps _ _ _ k;refine kh (reads_layAllW C _ _ _ k E f.heap (λm m e=>e)) λX GT Id V=>?_;have L:Laid r.records w s f i Y X:=⟨(aW F C k),GT,Id,V,keeps,h1.trans l,h3⟩;have z:=G.keeps (λm m m m m=>trivial) keeps;refine GV (z.fn u) λa o pm cd H=>Ml H λQ dV Z h1 h2 h3 h4 h5=>?_;refine M (dO Y f k (aG (cP.of (wpAny_nsGet z.T.g (I h1 ?_)))));have W:∀{x p},GoodWG r.toRowW.claim (AZ s.heap) (pH s.heap) i f x p->(r.toRowW.claim.Ends s i Y f x p/\p.os=s.os)/\AllBare p.gens:=λg=>i7 (g.laid (c:=r.toRowW.claim) O Fr (ident_freeW hu ha LE) L) λz1 z2 z3=>⟨⟨z1,z2⟩,z3⟩;exact aG (fx (cX w s f _ _ z (ST _ _ _ (hY w s y) keeps) a o pm cd Q dV Z h2 h3 h4 h5 (defOf_name u▸h1) L.gens i Y X B E L.reads L.well (L.low G.low)) (λv p g=>aX (aW _ rfl (W g))) λe p g=>W g)
end Mi
end
section
namespace Mi
inductive Tm where
 |any (ks:ag aF)|io|brk|oZ|jZ
structure Rl where
 n:Fin 37
noncomputable def ki(n:D)(h:Nat.ble (n+1) 37=am):Rl:=⟨⟨n,ac h⟩⟩
noncomputable def Rl.block:Rl:=ki 0 J
noncomputable def Rl.uy:Rl:=ki 1 J
noncomputable def Rl.qw:Rl:=ki 2 J
noncomputable def Rl.eY:Rl:=ki 3 J
noncomputable def Rl.row:Rl:=ki 4 J
noncomputable def Rl.gq:Rl:=ki 5 J
noncomputable def Rl.EX:Rl:=ki 6 J
noncomputable def Rl.Hv:Rl:=ki 7 J
noncomputable def Rl.more:Rl:=ki 8 J
noncomputable def Rl.names:Rl:=ki 9 J
noncomputable def Rl.name:Rl:=ki 10 J
noncomputable def Rl.QT:Rl:=ki 11 J
noncomputable def Rl.Ca:Rl:=ki 12 J
noncomputable def Rl.init:Rl:=ki 13 J
noncomputable def Rl.aU:Rl:=ki 14 J
noncomputable def Rl.var:Rl:=ki 15 J
noncomputable def Rl.wJ:Rl:=ki 16 J
noncomputable def Rl.call:Rl:=ki 17 J
noncomputable def Rl.tail:Rl:=ki 18 J
noncomputable def Rl.head:Rl:=ki 19 J
noncomputable def Rl.field:Rl:=ki 20 J
noncomputable def Rl.args:Rl:=ki 21 J
noncomputable def Rl.given:Rl:=ki 22 J
noncomputable def Rl.iT:Rl:=ki 23 J
noncomputable def Rl.fU:Rl:=ki 24 J
noncomputable def Rl.uT:Rl:=ki 25 J
noncomputable def Rl.qt:Rl:=ki 26 J
noncomputable def Rl.iU:Rl:=ki 27 J
noncomputable def Rl.behind:Rl:=ki 28 J
noncomputable def Rl.table:Rl:=ki 29 J
noncomputable def Rl.items:Rl:=ki 30 J
noncomputable def Rl.other:Rl:=ki 31 J
noncomputable def Rl.xG:Rl:=ki 32 J
noncomputable def Rl.dQ:Rl:=ki 33 J
noncomputable def Rl.body:Rl:=ki 34 J
noncomputable def Rl.params:Rl:=ki 35 J
noncomputable def Rl.io:Rl:=ki 36 J
theorem BR{r q:Rl}(e:r.n.1=q.n.1):r=q:=aL Rl.mk (Fin.ext e)
theorem oi{p:Rl->aD}(h:((List.finRange 37).all λi=>p ⟨i⟩)=am)(r:Rl):p r=am:=aS.mp h r.n (List.mem_finRange _)
theorem FO{r q:Rl}(h:r≠q){b:aD}(e:(gW r.n.1 q.n.1||b)=am):b=am:=by
 cases a:gW r.n.1 q.n.1 with
 |false=>rw[a] at e;exact e
 |true=>exact cq (BR (eC a)) h
inductive Md where
 |dY|eG|eM|kZ
inductive Pp where
 |t (x:Tm)|r (x:Rl) (m:Md)
structure Fg where
 lp:aD
 va:aD
structure Gx where
 K:D->aF
 N:D
noncomputable abbrev oR(x:Rl):Pp:= .r x .dY
noncomputable abbrev tK(c:aF):Pp:= .t (.any [c])
noncomputable def Rs:ag (ag (ag Pp)):=[[[.r .uy .eM,.r .eY .eG]],[[oR .row,.r .qw .eG]],[[tK 59]],[[tK 273,.r .iT .eG,.r .qw .eG],[.t .brk,.r .qw .eG]],[[tK 259,oR .block,tK 262],[tK 277,oR .fU,tK 259,oR .gq,tK 262],[tK 272,oR .gq,tK 276,oR .fU],[tK 266,oR .fU,tK 274,oR .block,.r .EX .eM,.r .Hv .eG,tK 262],[tK 264,tK 285,tK 61,oR .fU,tK 44,oR .fU,.r .more .eG,tK 259,oR .gq,tK 262],[tK 264,oR .names,tK 267,oR .iT,tK 259,oR .gq,tK 262],[tK 265,tK 285,.r .QT .eM,.r .Ca .eG,oR .body],[tK 268,tK 265,tK 285,oR .body],[tK 268,oR .names,.r .init .eG],[oR .var,.r .aU .eM,tK 61,oR .iT],[oR .call]],[[oR .block]],[[tK 261,oR .fU,tK 274,oR .block]],[[tK 260,oR .block]],[[tK 44,oR .fU]],[[tK 285,.r .name .eM]],[[tK 44,tK 285]],[[tK 46,tK 285]],[[tK 58,tK 285]],[[tK 61,oR .iT]],[[tK 44,oR .var]],[[oR .head,.r .wJ .kZ,.t .jZ],[tK 285,.t .jZ]],[[.r .args .eM,oR .field]],[[oR .head,.r .tail .kZ,.t .jZ]],[[.r .field .eM,oR .args]],[[tK 285],[tK 40,oR .fU,tK 41]],[[tK 46,tK 285],[tK 91,oR .fU,tK 93]],[[tK 58,tK 285,oR .given],[oR .given]],[[tK 286],[oR .table],[.t .oZ,.r .iT .eG,tK 41]],[[oR .fU,.r .more .eM]],[[oR .qt,.r .uT .eM]],[[.t (.any [43,45,278,280]),oR .qt]],[[.t (.any [45,35,270]),oR .qt],[oR .iU]],[[.t (.any [284,269])],[tK 286],[.t .io],[oR .table],[tK 265,oR .body],[oR .head,.r .behind .eM,.t .jZ]],[[oR .field],[oR .args]],[[tK 123,.r .items .eG,tK 125]],[[oR .dQ,.r .other .eM,.r .xG .eG]],[[oR .xG,oR .dQ]],[[tK 44],[tK 59]],[[tK 91,oR .fU,tK 93,tK 61,oR .fU],[tK 285,tK 61,oR .fU],[oR .fU]],[[tK 40,.r .params .eG,tK 41,oR .block,tK 262]],[[oR .names,.r .io .eG],[.t .io]],[[tK 44,.t .io]]]
noncomputable def lJ(r:Rl):ag (ag Pp):=Rs.getD r.n.1 []
noncomputable def ux(X:Gx)(B:D->aD)(f:Fg):Tm->D->av D
 | .jZ,i=>if X.K i=40 then ax else ae i
 | .any a,i=>if X.K i∈a then ae (i+1) else ax
 | .io,i=>if X.K i=279/\f.va=am then ae (i+1) else ax
 | .brk,i=>if X.K i=258/\f.lp=am then ae (i+1) else ax
 | .oZ,i=>if X.K i=40/\B i=ai then ae (i+1) else ax
noncomputable def ug(X:Gx):D->D->aD
 |0,_=>ai
 |n+1,i=>if X.K i=41 then am else ug X n (i+1)
noncomputable def sx(X:Gx):D->D->aD
 |0,_=>ai
 |n+1,i=>if X.K i=41 then ai else if X.K i=279 then ug X n (i+1) else sx X n (i+1)
noncomputable def Fg.at(f:Fg)(X:Gx)(r:Rl)(i:D):Fg:=if r.n.1=5 then⟨true,f.va⟩ else if r.n.1=34 then⟨ai,sx X (X.N-i) i⟩ else f
noncomputable def oz(X:Gx)(B:D->aD)(r:Rl)(i:D):D->aD:=if r.n.1=33 then(if X.K i=285/\i+1<X.N then λk=>if k=i+1 then ai else B k else B) else B
noncomputable def again(g:D->av (av D)):D->D->D->av (D×D)
 |0,_,_=>none
 |n+1,i,k=>(g i).bind λj=>match j with|some j=>again g n j (k+1)|none=>some (i,k)
noncomputable abbrev Gf:=Rl->D->av (av D)
noncomputable def y5(g:Gf)(X:Gx)(B:D->aD)(f:Fg)(p:Pp)(i:D):av (av D):=match p with
 | .t x=>ae (ux X B f x i)
 | .r x .dY=>g x i
 | .r x .eG=>(g x i).map λj=>ae (j.getD i)
 | .r x .eM=>(again (g x) 4000 i 0).map λp=>ae p.1
 | .r x .kZ=>(again (g x) 4000 i 0).map λp=>if p.2=0 then ax else ae p.1
noncomputable def jB(g:Gf)(X:Gx)(B:D->aD)(f:Fg):ag Pp->D->av (av D)
 |[],i=>some (some i)
 |p::ps,i=>(y5 g X B f p i).bind λj=>match j with|some j=>jB g X B f ps j|none=>some none
noncomputable def rf(g:Gf)(X:Gx)(B:D->aD)(f:Fg):ag (ag Pp)->D->av (av D)
 |[],_=>some none
 |w::ws,i=>(jB g X B f w i).bind λj=>match j with|some j=>some (some j)|none=>rf g X B f ws i
noncomputable def pg(X:Gx):D->(D->aD)->Fg->Gf
 |0,_,_,_,_=>ax
 |n+1,B,f,r,i=>rf (pg X n (oz X B r i) (f.at X r i)) X (oz X B r i) (f.at X r i) (lJ r) i
noncomputable def JJ(k:aF):aF:=if k∈[40,123,91,265,259,266,272] then 11 else if k∈[41,125,93,262,276] then-11 else if k∈[43,45,278,280,270,35] then 1 else 0
noncomputable def BV:Tm->aF
 | .any (k::_)=>JJ k
 | .oZ=>11
 |_=>0
noncomputable def My:Tm->aD
 | .any a=>a.all λk=>JJ k==BV (.any a)&&k !=287
 |_=>am
noncomputable def Xr:ag (aF):=[14,13,0,11,12,15,15,15,9,1,0,0,0,11,6,5,4,5,4,1,1,3,2,10,8,7,6,5,4,1,11,10,0,9,15,2,0]
noncomputable def rk(r:Rl):aF:=Xr.getD r.n.1 0
noncomputable def mM(r:Rl):aD:=gW r.n.1 0||gW r.n.1 5
noncomputable def BY:Pp->aD
 | .t .jZ=>am
 | .t _=>ai
 | .r x .dY=>mM x
 | .r x .kZ=>mM x
 |_=>am
noncomputable def EQ(r:Rl):aF:=gj (gW r.n.1 34) (-11) 0
noncomputable def E6(k e:aF):ag Pp->aF->aD
 |[],p=>decide (e<=p)
 | .t x::ps,p=>My x&&E6 k e ps (p+BV x)
 | .r x m::ps,p=>decide (rk x+1<=k+p)&&(match m with| .dY=>am| .eG=>decide (EQ x=0)|_=> !mM x&&decide (EQ x=0))&&E6 k e ps (p+EQ x)
noncomputable def Ez(a:ag Pp):aD:=a.all BY
noncomputable def QX(r:Rl):aD:=(lJ r).all λw=>E6 (rk r) (EQ r) w 0&&(mM r|| !Ez w)
theorem LY(r:Rl):QX r=am:=oi (p:=QX) J r
noncomputable def ky(X:Gx):D->aF
 |0=>0
 |i+1=>ky X i+JJ (X.K i)
structure Rn(X:Gx)(M:aF):Prop where
 Xo:∀i,ky X i<=M
 o0:X.N<=3000
 AE:∀i,X.N<=i->X.K i=287
def FD(X:Gx)(b:aD)(P:aF)(i:D)(a:av D):Prop:=∀j,a=ae j->i<=j/\j<=X.N/\(b=ai->i<j)/\P<=ky X j
section
variable{X:Gx}{M:aF}(ok:Rn X M){B:D->aD}{f:Fg}{g:Gf}{i₀:D}
include ok
theorem N7{x:Tm}{i:D}(s:My x=am)(l:i<=X.N):FD X (BY (.t x)) (ky X i+BV x) i (ux X B f x i):=λj e=>by
 have a:X.K i≠287->JJ (X.K i)=BV x->i+1=j->i<=j/\j<=X.N/\(BY (.t x)=ai->i<j)/\ky X i+BV x<=ky X j:=λd c b=>by
  exact sb b (qG (dR i) (gM λz=>d (ok.AE i z)) (λg=>dc i) (by refine(?_ :_<=ky X i+JJ (X.K i));exact I c (cy _)))
 unfold ux at e;induction x with
 |jZ=>
  dsimp only at e;split at e<;>cases e;exact qG (aE _) l nofun (by refine(?_ :ky X i+0<=ky X i);exact j5 0xd40a2b200 J)
 |any h=>
  dsimp only at e;split at e<;>cases e;rename_i m;have z:=(aq _ _).mp (aS.mp s _ m);exact a (tB.mp z.2) (a6.mp z.1) J
 |io=>
  dsimp only at e;split at e<;>cases e;rename_i m;exact a (I m.1 (aa J)) (I m.1 J) J
 |brk=>
  dsimp only at e;split at e<;>cases e;rename_i m;exact a (I m.1 (aa J)) (I m.1 J) J
 |oZ=>
  dsimp only at e;split at e<;>cases e;rename_i m;exact a (I m.1 (aa J)) (I m.1 J) J
omit ok in
theorem Ak{g:D->av (av D)}(t:∀j,j<=X.N->ky X i₀<=ky X j->∃b,g j=ae b/\FD X ai (ky X j) j b):∀(m i k:D),X.N-i<m->i<=X.N->ky X i₀<=ky X i->∃p,again g m i k=ae p/\i<=p.1/\p.1<=X.N/\ky X i<=ky X p.1/\(p.2≠k->i<p.1)/\k<=p.2:=by
 intro c;induction c with
 |zero=>
  intro d d l d d;exact cq l (oD _)
 |succ m s=>
  intro i k l o n;refine aM (t i o n) λb e a=>?_;unfold again;refine I e ?_;induction b with
  |none=>exact Qk _ rfl (aE _) o (cy _) ⟨λz=>cq J z,aE _⟩
  |some j=>
   refine rQ (a j J) λA a2 f r=>?_;have f:=f J;refine NW (s j (k+1) (by lia) a2 (JP 0x35080b8206e040 J n r)) λp u q x w h=>cv h λy v=>?_;exact Qk p u (gC 0x35080b8206f040 J f q) x (JP 0x35080b8206e040 J r w) ⟨λd=>gC 0x36080b8206f040 J f q,dw 0xd4102e068240 J v⟩
theorem K3{k e:aF}{i₀:D}(Z:∀(r:Rl) (j:D) (q:aF),j<=X.N->ky X i₀+q<=ky X j->rk r+1<=k+q->∃h,g r j=ae h/\FD X (mM r) (ky X j+EQ r) j h):∀(l:ag Pp) (i:D) (p:aF),E6 k e l p=am->i<=X.N->ky X i₀+p<=ky X i->∃h,jB g X B f l i=ae h/\FD X (Ez l) (ky X i₀+e) i h:=by
 intro y;induction y with
 |nil=>
  intro i p c s Q;exact(aW (ae i) J (λj z=>by
   refine sb (si z) ?_;have:=aa c;exact qG (aE _) s nofun (Xz 0x350a80c0b810ee0a8040 J Q this)))
 |cons q l W=>
  intro i p c s Q;have A:∀(H:aD) (d:aF) (h:av D),(H=am->BY q=am)->y5 g X B f q i=ae h->FD X H (ky X i+d) i h->E6 k e l (p+d)=am->∃h,jB g X B f (q::l) i=ae h/\FD X (Ez (q::l)) (ky X i₀+e) i h:=λH d h Y L a c=>by
   unfold jB;refine I L ?_;induction h with
   |none=>exact aW ax J nofun
   |some j=>
    refine rQ (a j J) λP a2 V S=>aM (W j (p+d) c a2 (Pe 0x35128a03040b84a030ae0a8040 J Q S)) λh C b=>aW h C (λU z=>rQ (b U z) λv G F O=>qG (gC 0x35080b8206e040 J P v) G (λz=>?_) O);induction H with
    |false=>exact gC 0x36042bc00ae040 J v (V J)
    |true=>
     have:=F (by
      rw[show Ez (q::l)=(BY q&&Ez l) from J,Y J] at z;exact z);exact gC 0x36080bc206e040 J P this
  induction q with
  |t x=>
   have c:=(aq _ _).mp c;exact A (BY (.t x)) (BV x) _ id J (N7 ok c.1 s) c.2
  |r x m=>
   have c:=(aq _ _).mp c;have M:=(aq _ _).mp c.1;have R:=λj (w:j<=X.N) (K:ky X i<=ky X j)=>Z x j p w (by omega) (aa M.1);refine aM (R i s (cy _)) λh L a=>?_;induction m with
   |dY=>exact A (mM x) (EQ x) h id L a c.2
   |eG=>
    have u:=aa M.2;have n:=c.2;rw[u] at n a;refine A am 0 (ae (h.getD i)) (λT=>rfl) (by unfold y5;dsimp only;exact I L J) (λj z=>?_) n;induction h with
    |none=>exact sb (si z) (qG (aE _) s nofun (by refine(?_ :ky X i+0<=ky X i);exact j5 0xd40a2b200 J))
    |some U=>exact sb (si z) (rQ (a _ rfl) λP a2 V S=>qG P a2 nofun S)
   |eM=>
    have E:=(aq _ _).mp M.2;have u:=aa E.2;have n:=c.2;rw[u] at n;refine NW (Ak (i₀:=i) (λj w K=>by have:=R j w K;rw[((bc _).mp E.1),u,dT] at this;exact this) 4000 i 0 (Ra ok.o0) s (cy _)) λq C v G F o=>?_;refine cv o λO b5=>?_;exact A am 0 (ae q.1) (λT=>rfl) (by unfold y5;dsimp only;exact I C J) (λj z=>sb (si z) (qG v G nofun (Dp 0x35068ac802e040 J F))) n
   |kZ=>
    have E:=(aq _ _).mp M.2;have u:=aa E.2;have n:=c.2;rw[u] at n;refine NW (Ak (i₀:=i) (λj w K=>by have:=R j w K;rw[((bc _).mp E.1),u,dT] at this;exact this) 4000 i 0 (Ra ok.o0) s (cy _)) λq C v G F o=>?_;refine cv o λO b5=>?_;refine A ai 0 _ nofun (by unfold y5;dsimp only;exact I C J) (λj z=>?_) n;dsimp only at z;split at z<;>cases z;exact qG v G (λT=>O ‹_›) (Dp 0x35068ac802e040 J F)
theorem Hb:∀(n:D) (B:D->aD) (f:Fg) (r:Rl) (i:D),i<=X.N->rk r+1+M-ky X i<=n->∃res,pg X n B f r i=ae res/\FD X (mM r) (ky X i+EQ r) i res:=by
 intro ind_;induction ind_ with
 |zero=>
  intro x_ x_ r i x_ l;have:=ok.Xo i;have:0<=rk r:=aa (oi (p:=λr=>decide (0<=rk r)) J r);exact VS l ‹ky X i<=M› this
 |succ n ih_=>
  intro B f r i li l;unfold pg;have hg:∀(r':Rl) (j:D) (q:aF),j<=X.N->ky X i+q<=ky X j->rk r'+1<=rk r+q->∃res,pg X n (oz X B r i) (f.at X r i) r' j=ae res/\FD X (mM r') (ky X j+EQ r') j res:=λr' j q lj lq lr=>ih_ _ _ r' j lj (Xx 0x35ac0a85a02a2b246ba8101a2b246b85a040eeae8240a83a02a2b241 J l lq lr);have ck:=aS.mp (LY r);generalize pg X n (oz X B r i) (f.at X r i)=g at*;generalize oz X B r i=B' at*;generalize f.at X r i=f' at*;generalize lJ r=ws at*;induction ws with
  |nil=>exact aW ax J nofun
  |cons w ws ih=>
   have c:=(aq _ _).mp (ck w (.head _));refine aM (K3 ok (B:=B') (f:=f') hg w i 0 c.1 li (j5 0xd40a2b200 J)) λres e a=>?_;unfold rf;refine I e ?_;induction res with
   |none=>exact ih λw m=>ck w (.tail _ m)
   |some j=>
    refine aW (ae j) J (λj' z=>rQ (a j' z) λa1 a2 a3 a4=>qG a1 a2 (λz=>a3 ?_) a4);rw[z] at c;exact(bc _).mp c.2
end
noncomputable def toks:Tm->ag aF
 | .any b=>b
 | .io=>[279]
 | .brk=>[258]
 | .oZ=>[40]
 | .jZ=>[]
noncomputable def Se:ag (ag aF):=[[],[259,277,272,266,264,265,268,285,40],[59],[273,258],[259,277,272,266,264,265,268,285,40],[],[261],[260],[44],[285],[44],[46],[58],[61],[44],[285,40],[46,91,58,286,123,40],[285,40],[46,91,58,286,123,40],[285,40],[46,91],[58,286,123,40],[286,123,40],[45,35,270,284,269,286,279,123,265,285,40],[45,35,270,284,269,286,279,123,265,285,40],[43,45,278,280],[45,35,270,284,269,286,279,123,265,285,40],[284,269,286,279,123,265,285,40],[46,91,58,286,123,40],[123],[91,45,35,270,284,269,286,279,123,265,285,40],[44,59],[44,59],[91,45,35,270,284,269,286,279,123,265,285,40],[40],[285,279],[44]]
noncomputable def cO(r:Rl):ag aF:=Se.getD r.n.1 []
noncomputable def ER:ag Pp->ag aF
 |[]=>[]
 | .t x::_=>toks x
 | .r x .dY::_=>cO x
 | .r x .kZ::_=>cO x
 | .r x _::ps=>cO x++ER ps
noncomputable def Po:ag Pp->aD
 |[]=>ai
 | .t x::_=>(match x with| .jZ=>ai|_=>am)
 | .r x .dY::_=> !mM x
 | .r x .kZ::_=> !mM x
 | .r x _::ps=> !mM x&&Po ps
noncomputable def NA(r:Rl):aD:=mM r||(lJ r).all λw=>Po w&&(ER w).all λk=>(cO r).contains k
theorem LD(r:Rl):NA r=am:=oi (p:=NA) J r
def PT(X:Gx)(g:Gf):Prop:=∀r i j,g r i=ae (ae j)->mM r=ai->X.K i∈cO r
section
variable{X:Gx}{B:D->aD}{f:Fg}{g:Gf}{r:Rl}{ps:ag Pp}{i j:D}{a:av D}
theorem j8{g:D->av (av D)}{m k:D}{p:D×D}(e:again g m i k=some p):∃b,g i=some b/\(match b with|some j=>∃d,again g d j (k+1)=some p|none=>p=(i,k)):=by
 induction m with
 |zero=>exact nn e
 |succ m=>
  refine aM (dI.mp e) λb f c=>aW b f ?_;induction b with
  |some j=>exact⟨m,c⟩
  |none=>exact(aT c).symm
def PW(X:Gx)(B:D->aD)(f:Fg)(g:Gf)(ps:ag Pp)(b a:av D):Prop:=match b with
 |some j=>jB g X B f ps j=ae a
 |none=>a=ax
theorem Pu{p:Pp}(e:jB g X B f (p::ps) i=ae a):∃b,y5 g X B f p i=ae b/\PW X B f g ps b a:=by
 refine aM (dI.mp e) λb d c=>aW b d ?_;induction b with
 |some j=>exact c
 |none=>exact(aT c).symm
theorem dN{p:Pp}{G:Prop}(e:jB g X B f (p::ps) i=ae a)(k:∀b,y5 g X B f p i=ae b->PW X B f g ps b a->G):G:=aM (Pu e) k
theorem B7(e:jB g X B f (.r r .eG::ps) i=ae a):∃b,g r i=ae b/\jB g X B f ps (b.getD i)=ae a:=by
 refine dN e λb j c=>?_;revert c;refine sr b (bw.mp j) λd h=>λc=>?_;exact aW d h c
theorem yi(e:jB g X B f (.r r .eM::ps) i=ae a):∃m p,again (g r) m i 0=ae p/\jB g X B f ps p.1=ae a:=by
 refine dN e λc h b=>?_;revert b;refine sr c (bw.mp h) λp d=>λb=>?_;exact dO _ p d b
theorem yj(e:jB g X B f (.r r .kZ::ps) i=ae a):∃m p,again (g r) m i 0=ae p/\PW X B f g ps (if p.2=0 then ax else ae p.1) a:=by
 refine dN e λc h b=>?_;revert b;refine sr c (bw.mp h) λp d=>λb=>?_;exact dO _ p d b
theorem wL{c:ag aF}(e:jB g X B f (.t (.any c)::ps) i=ae a)(m:X.K i∈c):jB g X B f ps (i+1)=ae a:=by
 refine dN e λh b d=>?_;have b:ae (if X.K i∈c then ae (i+1) else ax)=ae h:=b;rw[cw m] at b;revert d;exact sb (si b) λd=>d
theorem yk{c:ag aF}(e:jB g X B f (.t (.any c)::ps) i=ae a)(m:X.K i∉c):a=ax:=by
 refine dN e λh b d=>?_;have b:ae (if X.K i∈c then ae (i+1) else ax)=ae h:=b;rw[bG m] at b;revert d;exact sb (si b) λd=>d
theorem vX{k:aF}(e:jB g X B f (tK k::ps) i=ae a)(m:X.K i=k):jB g X B f ps (i+1)=ae a:=wL e (ao.mpr m)
theorem zJ{k:aF}(e:jB g X B f (tK k::ps) i=ae a)(m:X.K i≠k):a=ax:=yk e λz=>m (ao.mp z)
theorem sh(e:jB g X B f [] i=ae a):a=ae i:=(aT e).symm
section
variable(G:PT X g)
include G
theorem Hw{b:av D}(e:g r i=ae b)(n:mM r=ai)(m:X.K i∉cO r):b=ax:=by
 induction b with
 |none=>rfl
 |some j=>exact cq (G r i j e n) m
theorem yf:∀(ps:ag Pp) {i j:D},Po ps=am->jB g X B f ps i=ae (ae j)->X.K i∈ER ps:=by
 intro ps;induction ps with
 |nil=>intro i j z;exact ft z
 |cons p ps o=>
  intro i j z e;cases p with
  |t x=>
   refine dN e λd c b=>?_;have c:ae (ux X B f x i)=ae d:=c;have nn:ux X B f x i≠ax:=λw=>by
    rw[w] at c;cases c;exact nomatch (b)
   unfold ux at nn;induction x with
   |jZ=>exact ft z
   |any q=>dsimp only at nn;split at nn;assumption;exact cq J nn
   |io=>dsimp only at nn;split at nn;exact ao.mpr (And.left ‹_›);exact cq J nn
   |brk=>dsimp only at nn;split at nn;exact ao.mpr (And.left ‹_›);exact cq J nn
   |oZ=>dsimp only at nn;split at nn;exact ao.mpr (And.left ‹_›);exact cq J nn
  |r x m=>
   induction m with
   |dY=>
    refine dN e λd c b=>?_;induction d with
    |none=>exact nomatch (b)
    |some h=>exact G x i h c ((bc _).mp z)
   |kZ=>
    refine cY (yj e) λm p c b=>aM (j8 c) λd n k=>?_;induction d with
    |none=>
     revert b;exact I k λb=>nomatch (b)
    |some h=>exact G x i h n ((bc _).mp z)
   |eG=>
    have z:=(aq _ _).mp z;refine aM (B7 e) λd c b=>?_;induction d with
    |none=>exact dC _ (o z.2 b)
    |some h=>exact ie _ (G x i h c ((bc _).mp z.1))
   |eM=>
    have z:=(aq _ _).mp z;refine cY (yi e) λm p c b=>aM (j8 c) λd n k=>?_;induction d with
    |none=>revert b;exact I k λb=>dC _ (o z.2 b)
    |some h=>exact ie _ (G x i h n ((bc _).mp z.1))
noncomputable def OF(S:ag aF)(b:ag (ag Pp)):ag (ag Pp):=b.filter λw=>S.any λk=>(ER w).contains k
theorem Sh{S:ag aF}(m:X.K i∈S):∀{c:ag (ag Pp)},(∀w∈c,Po w=am)->rf g X B f c i=ae a->rf g X B f (OF S c) i=ae a:=by
 intro b;induction b with
 |nil=>
  intro r e;exact e
 |cons w c ih_=>
  intro k e;refine aM (dI.mp e) λn p d=>?_;have o:=λe=>ih_ (λw h=>k w (.tail _ h)) e;unfold OF;refine I List.filter_cons ?_;split
  ·unfold rf;refine I p ?_;induction n with
   |some j=>exact d
   |none=>exact o d
  ·rename_i q;induction n with
   |some j=>exact cq (mS.mpr (aW _ m (gI.mpr (yf G w (k w (.head _)) p)))) q
   |none=>exact o d
omit G in
theorem sf{w:ag Pp}(e:rf g X B f [w] i=ae a):jB g X B f w i=ae a:=by
 refine aM (dI.mp e) λd c b=>?_;induction d with
 |some j=>exact sb (si b) c
 |none=>exact sb (si b) c
end
end
theorem wF{X:Gx}{B:D->aD}{f:Fg}{r:Rl}{i n:D}{a:av D}(e:pg X n B f r i=ae a):∃m,rf (pg X m (oz X B r i) (f.at X r i)) X (oz X B r i) (f.at X r i) (lJ r) i=ae a:=by
 induction n with
 |zero=>exact nn e
 |succ n=>exact⟨n,e⟩
theorem Im{X:Gx}{B:D->aD}{f:Fg}{g:Gf}{i j:D}:∀{b:ag (ag Pp)},rf g X B f b i=ae (ae j)->∃w∈b,jB g X B f w i=ae (ae j):=by
 intro b;induction b with
 |nil=>exact λe=>nomatch e
 |cons w b h=>
  intro e;refine aM (dI.mp e) λd k c=>?_;induction d with
  |some j=>cases c;exact aW w (.head _) k
  |none=>exact aM (h c) λw m e=>aW w (.tail _ m) e
theorem AC{r:Rl}(d:mM r=ai):∀w∈lJ r,Po w=am/\∀k∈ER w,k∈cO r:=λw m=>by
 have b:=LD r;unfold NA at b;rw[d,xy] at b;have c:=(aq _ _).mp (aS.mp b w m);exact⟨c.1,λk h=>gI.mp (aS.mp c.2 k h)⟩
theorem rU{X:Gx}:∀(n:D) (B:D->aD) (f:Fg),PT X (pg X n B f):=by
 intro c;induction c with
 |zero=>
  intro d d;exact λd d d e=>nomatch e
 |succ n h=>
  intro B f;exact λr i j e g=>by
   refine aM (Im (e)) λw m b=>?_;have:=AC g w m;exact this.2 _ (yf (h _ _) w this.1 b)
section
variable{X:Gx}{B:D->aD}{f:Fg}{r:Rl}{i n:D}{a:av D}
theorem BW(S:ag aF)(e:pg X n B f r i=ae a)(b:mM r=ai)(m:X.K i∈S):∃m,rf (pg X m (oz X B r i) (f.at X r i)) X (oz X B r i) (f.at X r i) (OF S (lJ r)) i=ae a:=
 cs (wF e) λk e=>⟨k,Sh (rU k _ _) m (λw h=>(AC b w h).1) e⟩
theorem RT(S:ag aF){w:ag Pp}(e:pg X n B f r i=ae a)(b:mM r=ai)(m:X.K i∈S)(o:OF S (lJ r)=[w]):∃m,jB (pg X m (oz X B r i) (f.at X r i)) X (oz X B r i) (f.at X r i) w i=ae a:=by
 refine cs (BW S e b m) λk e=>?_;rw[o] at e;exact⟨k,sf e⟩
theorem yC(e:pg X n B f r i=ae a)(b:mM r=ai)(m:X.K i∉cO r):a=ax:=Hw (rU n B f) e b m
end
def Fz(X:Gx)(S:aF->aD)(a:av D):Prop:=∀j,a=ae j->S (X.K j)=am
noncomputable def oS(S:aF->aD):ag Pp->aD
 |[]=>am
 | .t (.any ks)::_=>ks.all λk=> !S k
 | .t .jZ::ps=>oS S ps
 | .t _::_=>ai
 | .r x .dY::_=> !mM x&&(cO x).all λk=> !S k
 | .r x .kZ::_=> !mM x&&(cO x).all λk=> !S k
 | .r x _::ps=> !mM x&&(cO x).all (λk=> !S k)&&oS S ps
section
variable{X:Gx}{B:D->aD}{f:Fg}{g:Gf}{S l:aF->aD}{i:D}{a:av D}
theorem Fz.none:Fz X S ax:=nofun
theorem Fz.of(e:a= .none):Fz X S a:=I e .none
theorem Fz.fH(q:Fz X S a)(m:∀k,S k=am->l k=am):Fz X l a:=λj e=>m _ (q j e)
theorem hH{x:Rl}(G:PT X g){b:av D}(e:g x i=ae b)(c:(!mM x&&(cO x).all λk=> !S k)=am)(s:S (X.K i)=am):b= .none:=by
 have c:=(aq _ _).mp c;refine Hw G e ((bc _).mp c.1) λm=>?_;have:=aS.mp c.2 _ m;rw[s] at this;exact ft this
theorem PA(G:PT X g):∀{ps:ag Pp} {i:D},oS S ps=am->S (X.K i)=am->jB g X B f ps i=ae a->Fz X S a:=by
 intro ps;induction ps with
 |nil=>exact λd s e j z=>by revert z;exact sb (si e) λz=>sb (si z) s
 |cons p ps n=>
  intro i d s e;cases p with
  |t x=>
   cases x with
   |any q=>
    exact .of (yk e λm=>by
     have:=aS.mp d _ m;rw[s] at this;exact ft this)
   |jZ=>
    refine dN e λh c b=>?_;have c:ae (if X.K i=40 then ax else ae i)=ae h:=c;split at c<;>cases c
    ·exact .of b
    ·exact n d s b
   |_=>exact ft d
  |r x m=>
   cases m with
   |dY=>
    refine dN e λh c b=>?_;rw[hH G c d s] at b;exact .of b
   |kZ=>
    refine cY (yj e) λm p c b=>aM (j8 c) λh o k=>?_;rw[hH G o d s] at k;revert b;exact I k λb=> .of b
   |eG=>
    have d:=(aq _ _).mp d;refine aM (B7 e) λh c b=>?_;rw[hH G c d.1 s] at b;exact n d.2 s b
   |eM=>
    have d:=(aq _ _).mp d;refine cY (yi e) λm p c b=>aM (j8 c) λh o k=>?_;rw[hH G o d.1 s] at k;revert b;exact I k λb=>n d.2 s b
noncomputable def km:ag Pp->aD
 |[]=>ai
 | .t .jZ::ps=>km ps
 | .r _ .eG::ps=>km ps
 | .r _ .eM::ps=>km ps
 |_=>am
theorem vE(G:PT X g):∀{ps:ag Pp} {i:D},oS S ps=am->km ps=am->S (X.K i)=am->jB g X B f ps i=ae a->a=ax:=by
 intro ps;induction ps with
 |nil=>intro i d c;exact ft c
 |cons p ps n=>
  intro i d c s e;cases p with
  |t x=>
   cases x with
   |any q=>
    exact yk e λm=>by
     have:=aS.mp d _ m;rw[s] at this;exact ft this
   |jZ=>
    refine dN e λj h b=>?_;have h:ae (if X.K i=40 then ax else ae i)=ae j:=h;split at h<;>cases h
    ·exact b
    ·exact n d c s b
   |_=>exact ft d
  |r x m=>
   cases m with
   |dY=>
    refine dN e λj h b=>?_;rw[hH G h d s] at b;exact b
   |kZ=>
    refine cY (yj e) λm p h b=>aM (j8 h) λj o k=>?_;rw[hH G o d s] at k;revert b;exact I k λb=>b
   |eG=>
    have d:=(aq _ _).mp d;refine aM (B7 e) λj h b=>?_;rw[hH G h d.1 s] at b;exact n d.2 c s b
   |eM=>
    have d:=(aq _ _).mp d;refine cY (yi e) λm p h b=>aM (j8 h) λj o k=>?_;rw[hH G o d.1 s] at k;revert b;exact I k λb=>n d.2 c s b
end
end Mi
end
section
namespace Mi
open PySem (Operator CmpOp)
def Ev(C:Cy)(e:E)(L:bS)(h:H)(v:V)(F:H):Prop:=∀Q:P1,Q v F->(wE C e).1 L Q h
def Et(C:Cy)(e:E)(L:bS)(h:H)(t:aD)(F:H):Prop:=∀Q:aD->H->Prop,Q t F->(wE C e).2 L Q h
def mC(C:Cy)(es:ag E)(L:bS)(h:H)(vs:ag V)(F:H):Prop:=∀Q:ag V->H->Prop,Q vs F->oh C es L Q h
section
variable{C:Cy}{L G:bS}{h F j A B:H}{v w x y u:V}{e l r o i:E}{es:ag E}{vs:ag V}{t:aD}
theorem Ev.co:Ev C (.c v) L h v h:=λQ q=>q
theorem Ev.lo{i:D}(g:L[i]? =ae (ae v)):Ev C (.l i) L h v h:=λQ q=>(aW v g q)
theorem Ev.at{a:D}(x:Ev C e L h w j)(g:zL C.fld j w a v):Ev C (.at e a) L h v j:=λQ q=>x _ (aW v g q)
theorem Ev.dy{op:Operator}(a:Ev C l L h x j)(b:Ev C r L j y A)(g:tA C.K A op x y v B):Ev C (.dy op l r) L h v B:=λQ q=>a _ (b _ (dO v B g q))
theorem Ev.neg{k:aF}(a:Ev C e L h (.int k) j):Ev C (.neg e) L h (.int (-k)) j:=λQ q=>a _ (aW k J q)
theorem Ev.cj{op:CmpOp}(a:Ev C l L h x j)(b:Ev C r L j y A)(g:kg C.K A op x y t):Ev C (.cj op l r) L h (.bool t) A:=λQ q=>a _ (b _ (aW t g q))
theorem Et.cj{op:CmpOp}(a:Ev C l L h x j)(b:Ev C r L j y A)(g:kg C.K A op x y t):Et C (.cj op l r) L h t A:=λQ q=>a _ (b _ (aW t g q))
theorem Et.Sz{c d:CmpOp}(a:Ev C l L h x j)(b:Ev C r L j y A)(g:kg C.K A c x y ai):Et C (.jQ c d l r e) L h ai A:=λQ q=>a _ (b _ (aW ai g q))
theorem Et.jQ{o1 o2:CmpOp}(a:Ev C l L h x j)(b:Ev C r L j y A)(g:kg C.K A o1 x y am)(d:Ev C e L A u B)(c:kg C.K B o2 y u t):Et C (.jQ o1 o2 l r e) L h t B:=λQ q=>a _ (b _ (aW am g (d _ (aW t c q))))
theorem Ev.sub(a:Ev C o L h x j)(b:Ev C i L j y A)(g:yw C.K A x y v):Ev C (.sub o i) L h v A:=λQ q=>a _ (b _ (aW v g q))
theorem mC.nil:mC C [] L h [] h:=λQ q=>q
theorem mC.cons(a:Ev C e L h v j)(b:mC C es L j vs A):mC C (e::es) L h (v::vs) A:=λQ q=>a _ (b _ q)
theorem Ev.bq(a:mC C es L h vs j):Ev C (.bq es) L h (.ref (Y7 j)) (j++[.bq vs]):=λQ q=>a _ q
theorem Ev.eS(a:mC C es L h vs j):Ev C (.eS es) L h (.ref (Y7 j)) (j++[.list vs]):=λQ q=>a _ q
theorem Ev.bi{b:D}(a:mC C es L h vs j)(g:nD C.K j b vs v):Ev C (.ca (.c (.bi b)) es) L h v j:=λQ q=>a _ (aW v g q)
theorem Ev.ty{k:D}(a:mC C es L h vs j)(g:Fu C.ba C.K j k vs v A):Ev C (.ca (.c (.ty k)) es) L h v A:=λQ q=>a _ (dO v A g q)
theorem Ev.vV{a k:D}(x:Ev C o L h w j)(g:Bq j w a k)(b:mC C es L j vs A)(m:Bp C.ba A k w a vs v B)(n:¬a<1000):Ev C (.me o a es) L h v B:=λQ q=>x _ (by unfold rY;exact cM n (aW k g (b _ (dO v B m q))))
theorem Et.of(g:JI v=ae t)(a:Ev C e L h v j)(k:(wE C e).2=λL Q=>(wE C e).1 L (xB Q)):Et C e L h t j:=λQ q=>I k (a _ (aW t g q))
theorem Et.not(a:Et C e L h t j):Et C (.lu e) L h (!t) j:=λQ q=>a _ q
theorem Et.hZ(a:Et C e L h ai j):Et C (.du (e::es)) L h ai j:=λQ q=>a _ q
theorem Et.du(a:Et C e L h am j)(b:Et C (.du es) L j t A):Et C (.du (e::es)) L h t A:=λQ q=>a _ (b Q q)
theorem Et.uj:Et C (.du []) L h am h:=λQ q=>q
theorem Et.NE(a:Et C e L h am j):Et C (.jr (e::es)) L h am j:=λQ q=>a _ q
theorem Et.jr(a:Et C e L h ai j)(b:Et C (.jr es) L j t A):Et C (.jr (e::es)) L h t A:=λQ q=>a _ (b Q q)
theorem Et.NF:Et C (.jr []) L h ai h:=λQ q=>q
variable{s:S}{b d ss:ag S}{Q:PS}
noncomputable abbrev sq(C:Cy)(ss:ag S)(Q:PS):PS:=λa G=>match a with
 | .next=>cD C ss G Q
 |f=>Q f G
theorem cZ{i:D}(a:Ev C e L h v j)(k:cD C ss (cx L i v) Q j):cD C (.as (.n i) e::ss) L Q h:=a _ k
theorem ia(a:Ev C e L h v j)(k:cD C ss L Q j):cD C (.ex e::ss) L Q h:=a _ k
theorem cL{a:D}(x:Ev C e L h v j)(y:Ev C o L j w A)(g:qh C.fld A w a v B)(k:cD C ss L Q B):cD C (.as (.at o a) e::ss) L Q h:=x _ (y _ (aW B g k))
theorem MA(x:Ev C e L h v j)(y:Ev C o L j w A)(z:Ev C i L A u B){a:H}(g:PQ B w u v a)(k:cD C ss L Q a):cD C (.as (.su o i) e::ss) L Q h:=x _ (y _ (z _ (aW a g k)))
theorem m8(a:Et C e L h t j)(k:t=am->cD C b L (sq C ss Q) j)(f:t=ai->cD C d L (sq C ss Q) j):cD C (.jC e b d::ss) L Q h:=a _ (match t,k,f with
 |true,k,_=>k J
 |false,_,f=>f J)
theorem bT(a:Et C e L h am j)(k:cD C b L (sq C ss Q) j):cD C (.jC e b d::ss) L Q h:=a _ k
theorem bm(a:Et C e L h ai j)(k:cD C d L (sq C ss Q) j):cD C (.jC e b d::ss) L Q h:=a _ k
theorem cJ(a:Ev C e L h v j)(k:Q (.ret v) L j):cD C (.re (ae e)::ss) L Q h:=a _ k
theorem FM{i:D}{b:Operator}{k:aF}(g:L[i]? =ae (ae w))(a:Ev C e L h v j)(m:FC b w v k)(q:cD C ss (cx L i (.int k)) Q j):cD C (.JV i b e::ss) L Q h:=(aW w g (a _ (aW k m q)))
theorem ub{a:D}{b:Operator}{k:aF}(x:Ev C o L h w j)(g:zL C.fld j w a u)(y:Ev C e L j v A)(m:FC b u v k)(p:qh C.fld A w a (.int k) B)(q:cD C ss L Q B):cD C (.v7 o a b e::ss) L Q h:=x _ (aW u g (y _ (nT k B m p q)))
theorem Qx(a:Ev C e L h v j)(k:C.X):cD C (.ra e::ss) L Q h:=a _ k
theorem oY(c:D->bS->H->Prop)(n:D)(i:c n L h)(d:∀n L h,c n L h->∃t j,Et C e L h t j/\if t=am then cD C b L (λf G F=>match f with
  | .next=>∃m,m<n/\c m G F
  | .brk=>cD C ss G Q F
  | .ret v=>Q (.ret v) G F) j else cD C ss L Q j):cD C (.wh e b::ss) L Q h:=(dO c n i (λn L h i=>by
 refine cY (d n L h i) λt j a k=>a _ ?_;induction t with
 |true=>exact k
 |false=>exact k))
theorem n9{f:D}(a:mC C es L h vs j){Q:P1}(k:C.call (.fn f) vs Q j):(wE C (.ca (.c (.fn f)) es)).1 L Q h:=a _ k
theorem Sj{f:D}(a:mC C es L h vs j){Q:P1}(k:C.call (.cls f) vs Q j):(wE C (.ca (.c (.cls f)) es)).1 L Q h:=a _ k
theorem s9{a f:D}(x:Ev C o L h w j)(g:Fy C.fI j w a f)(b:mC C es L j vs A){Q:P1}(k:C.call (.fn f) (w::vs) Q A)(n:a<1000):(wE C (.me o a es)).1 L Q h:=x _ (by unfold rY;exact dG n (aW f g (b _ k)))
end
noncomputable abbrev Cn(X:Prop)(n:D):Cy:=⟨P.K,P.fld,P.fI,P.call true X n,X,true⟩
noncomputable abbrev rt(Q:P1):PS:=λa b=>match a with
 | .ret v=>Q v
 |_=>Q .none
theorem UG{a b:aF}(h:a<=b):n6 .LtE a b=ae am:=aL ae (aR h)
theorem UH{a b:aF}(h:¬a<=b):n6 .LtE a b=ae ai:=aL ae (aO h)
theorem mJ{a b:aF}(h:rq a=am)(g:rq b=am):qz .Sub a b=ae (a-b):=by unfold qz;exact I h (I g J)
def Ru(X:Prop)(n f:D)(vs:ag V)(h:H)(v:V)(a:H):Prop:=∀Q:P1,Q v a->P.call am X n (.fn f) vs Q h
section
variable{X:Prop}{n:D}{L:bS}{h j u:H}{v w:V}{vs:ag V}{es:ag E}{o:E}
theorem Ev.fn{f:D}(a:mC (Cn X n) es L h vs j)(r:Ru X n f vs j v u):Ev (Cn X n) (.ca (.c (.fn f)) es) L h v u:=λQ q=>n9 a (r Q q)
theorem Ev.me{a f:D}(x:Ev (Cn X n) o L h w j)(g:Fy P.fI j w a f)(b:mC (Cn X n) es L j vs u){c:H}(r:Ru X n f (w::vs) u v c)(e:a<1000):Ev (Cn X n) (.me o a es) L h v c:=λQ q=>s9 x g b (r Q q) e
theorem Et.me{a f:D}{t:aD}(x:Ev (Cn X n) o L h w j)(g:Fy P.fI j w a f)(b:mC (Cn X n) es L j vs u){c:H}(r:Ru X n f (w::vs) u v c)(e:a<1000)(i:JI v=ae t):Et (Cn X n) (.me o a es) L h t c:=Et.of i (Ev.me x g b r e) J
end
structure Lx where
 pos:D
 cA:aF
 line:aF
 eY:aF
 jF:D
 cur:V
 jH:V
structure Lc where
 t:ag D
 X:D
 LM:D
 KD:D
noncomputable def y8:ag (D×V):=[(0,.int 64),(1,.int 250),(2,.int 60),(3,.int 200),(4,.int 40),(5,.int 200),(6,.int 2000),(7,.int 50),(8,.int 1000000000),(9,.int 1000000)]
noncomputable def jv(c:Lc)(x:Lx):ag (D×V):=[(9,.bytes c.t),(13,.bytes [61,108,97,119]),(14,.bytes [108,97,119]),(15,.ref c.LM),(16,.ref c.KD),(17,.int x.pos),(18,.int x.cA),(19,.int x.line),(20,.int x.eY),(21,.ref x.jF),(22,x.cur),(23,x.jH)]
noncomputable def fk:ag (V×V):=match(kL[0]? :av O) with
 |some (.list ws)=>ws.zipIdx.map λp=>(p.1,.int (257+p.2))
 |_=>[]
noncomputable def eP(t:ag D)(i:D):aF:=match t[i]? with
 |some a=>a
 |none=> -1
structure LH(c:Lc)(x:Lx)(b:ag D)(d h:H):Prop where
 gO:h[c.X]? =ae (.inst 4 (jv c x))
 jF:h[x.jF]? =ae (.f7 b)
 new:(Y7 d)<=x.jF
 fr:∀(n:D) o,d[n]? =ae o->n≠c.X->h[n]? =ae o
 sz:(Y7 d)<=h.length
 lm:d[c.LM]? =ae (.inst 0 y8)
 kd:d[c.KD]? =ae (.dict fk)
 lt:c.X<(Y7 d)
 ne:c.LM≠c.X/\c.KD≠c.X
 ok:c.t.length<=10000/\∀a∈c.t,a<256
 sg: -1<=x.cA/\x.cA<256
 len:b.length<=10000
section
variable{c:Lc}{x:Lx}{b:ag D}{d h:H}{n:D}{X:Prop}
theorem cB{o:O}{m k:D}{z:O}(g:h[m]? =ae o)(a:k≠m):(h.set k z)[m]? =ae o:=by refine I (fC a) ?_;exact g
theorem fF{o:O}{k:D}{z:O}(g:h[k]? =ae o):(h.set k z)[k]? =ae z:=fN (aY.mp g).1
theorem LH.uY(q:LH c x b d h){x':Lx}(e:x'.jF=x.jF)(f: -1<=x'.cA/\x'.cA<256):LH c x' b d (h.set c.X (.inst 4 (jv c x'))):=
 ⟨fF q.gO,I e (cB q.jF (cr (cQ q.lt q.new))),e▸q.new,λm o g a=>cB (q.fr m o g a) a.symm,I bC q.sz,q.lm,q.kd,q.lt,q.ne,q.ok,f,q.len⟩
theorem LH.dW(q:LH c x b d h):h[c.LM]? =ae (.inst 0 y8):=q.fr _ _ q.lm q.ne.1
theorem A9{t:ag D}(b:∀a∈t,a<256)(i:D): -1<=eP t i/\eP t i<256:=by
 unfold eP;cases e:t[i]? with
 |none=>exact⟨cy _,aa J⟩
 |some a=>exact⟨by refine(?_ : -1<=(a:aF));exact bO 0xd6b02cac9 J,by refine(?_ :(a:aF)<256);exact bO 0xdab61826b02f618240 J (b a (bI e))⟩
theorem LH.at(q:LH c x b d h){L:bS}(l:L[0]? =ae (ae (.ref c.X))){a:D}{v:V}(f:P.fld 4 a=am)(g:(jv c x).lookup a=ae v):Ev (Cn X n) (.at (.l 0) a) L h v h:= .at (.lo l) (.i q.gO f g)
theorem LH.fn(q:LH c x b d h){a f:D}(m:P.fI 4 a=ae f)(g:(jv c x).lookup a=ax):Fy P.fI h (.ref c.X) a f:=(.i q.gO m g)
theorem LH.set(q:LH c x b d h){a:D}{v:V}{x':Lx}(f:P.fld 4 a=am)(g:setField a v (jv c x)=jv c x'):qh P.fld h (.ref c.X) a v (h.set c.X (.inst 4 (jv c x'))):=(tU c.X 4 _ rfl q.gO f (by refine(?_ :12<=900);exact ac J) (I g J))
theorem xV{C:Cy}{L:bS}{e:E}{t:ag D}(y:Ev C e L h (.bytes t) h)(l:t.length<=10000):Ev C (.ca (.c (.bi 0)) [e]) L h (.int t.length) h:= .bi (.cons y .nil) (.bytes (az l (ac J)))
theorem B4{C:Cy}{L:bS}{o i:E}{t:ag D}{k a:D}(y:Ev C o L h (.bytes t) h)(w:Ev C i L h (.int k) h)(l:t.length<=10000)(g:t[k]? =ae a):Ev C (.sub o i) L h (.int a) h:=
 .sub y w (.bytes (by unfold Az;refine dG (az l (ac J)) (dG (bN k) (dG ((aY.mp g).1) ?_));rfl) g)
theorem jt{a b:aF}(h:rq a=am)(g:rq b=am):qz .Add a b=ae (a+b):=by unfold qz;exact I h (I g J)
theorem yq{a:aF}(h: -1<=a/\a<=1000000):rq a=am:=by
 unfold rq;exact I (aR (show-(2^100:aF)<a from by lia)) (I (aR (show a<2^100 from by lia)) J)
theorem nG(q:LH c x b d h)(l:x.pos<=10000):∃r,Ru X (n+1) 29 [.ref c.X] h .none r/\LH c {x with pos:=x.pos+1,cA:=eP c.t (x.pos+1)} b d r:=by
 have o:=q.uY (x':={x with pos:=x.pos+1}) J q.sg;refine aW _ (λQ k=>(bQ _ rfl J ?_)) (o.uY (x':={x with pos:=x.pos+1,cA:=eP c.t (x.pos+1)}) J (A9 q.ok.2 _));have L0:∀{h},Ev (Cn X n) (.l 0) [ae (.ref c.X)] h (.ref c.X) h:= .lo J;refine ub L0 (.i q.gO J J) .co (nT x.pos 1 J J (jt (yq (⟨bO 0xd6b02cac9 J,bO 0x35ad871a717ac0b9865f280 J l⟩)) J)) (q.set (x':={x with pos:=x.pos+1}) J J) (cL (v:= .int (eP c.t (x.pos+1))) ?_ L0 (o.set (x':={x with pos:=x.pos+1,cA:=eP c.t (x.pos+1)}) J J) k);intro Q k;have p:=o.at (n:=n) (X:=X) (L:=[ae (.ref c.X)]) (a:=9) J J J;have g:=o.at (n:=n) (X:=X) (L:=[ae (.ref c.X)]) (a:=17) J J J;by_cases m:x.pos+1<c.t.length
 ·refine Et.cj (t:=am) g (xV p q.ok.1) (.int (show n6 .Lt ((x.pos+1:D):aF) c.t.length=_ from aL ae (aR (f8.mpr m)))) _ (B4 p g q.ok.1 (aI m) _ ?_);unfold eP at k;rwa [aI m] at k
 ·refine Et.cj (t:=ai) g (xV p q.ok.1) (.int (show n6 .Lt ((x.pos+1:D):aF) c.t.length=_ from aL ae (aO λh=>m (f8.mp h)))) _ ?_;unfold eP at k;rwa [dF (pU.mp m)] at k
theorem KF(q:LH c x b d h){s:D}(r:s<256)(l:b.length<9000):∃f,Ru X (n+1) 30 [.ref c.X,.int s] h .none f/\LH c x (b++[s]) d f:=by
 refine aW (h.set x.jF (O.f7 (b++[s]))) (λQ k=>(bQ _ rfl J ?_)) ⟨cB q.gO (cr (cQ q.lt q.new)).symm,fF q.jF,q.new,λm o g t=>cB (q.fr m o g t) (fM (cQ (aY.mp g).1 q.new)),I bC q.sz,q.lm,q.kd,q.lt,q.ne,q.ok,q.sg,I au (az (Nat.succ_le_of_lt l) (ac J))⟩;have e:=q.at (n:=n) (X:=X) (L:=[some (.ref c.X),some (.int s)]) (a:=21) J J J;have p:b.length<=dW:=az (fh l) (ac J);exact bm (.cj (.bi (.cons e .nil) (nD.f7 q.jF p)) (.at (q.at (a:=15) J J J) (.i q.dW J J)) (.int (aL some (aO (bO 0x38ac0ad871a717be069b280 J l))))) (ia (.vV e (Bq.f7 q.jF) (.cons (.lo J) .nil) (.Rb J q.jF p r) (aa J)) k)
theorem oN(q:LH c x b d h)(r:0<=x.cA)(p:x.pos<=10000)(l:b.length<9000):∃m,Ru X (n+2) 31 [.ref c.X] h .none m/\LH c {x with pos:=x.pos+1,cA:=eP c.t (x.pos+1)} (b++[x.cA.toNat]) d m:=by
 refine aM (KF (X:=X) (n:=n) (s:=x.cA.toNat) q (VW q.sg.2) l) λi o g=>aM (nG (X:=X) (n:=n) g p) λe y v=>?_;rw[oI r] at o;exact aW e (λQ k=>(bQ _ rfl J (ia (.me (.lo J) (q.fn J J) (.cons (q.at (a:=18) J J J) .nil) o (ac J)) (ia (.me (.lo J) (g.fn J J) .nil y (ac J)) k)))) v
end
theorem bH{h:H}{m:D}{o z:O}(g:h[m]? =ae o):(h++[z])[m]? =ae o:=by refine I (bF (aY.mp g).1) ?_;exact g
theorem Am{X:Prop}{n:D}{c:Lc}{x:Lx}{d:H}(g:d[c.X]? =ae (.inst 4 (jv c x)))(lm:d[c.LM]? =ae (.inst 0 y8))(kd:d[c.KD]? =ae (.dict fk))(ne:c.LM≠c.X/\c.KD≠c.X)(ok:c.t.length<=10000/\∀a∈c.t,a<256)(sg: -1<=x.cA/\x.cA<256):
  ∃h',Ru X (n+1) 33 [.ref c.X] d .none h'/\LH c {x with jF:=(Y7 d)} [] d h':=by
 have lt:=(aY.mp g).1;refine aW ((d++[O.f7 []]).set c.X (.inst 4 (jv c {x with jF:=(Y7 d)}))) (λQ k=>(bQ _ rfl J ?_)) ⟨fF (bH g),cB bD (cr lt),aE _,λm o q ne=>cB (bH q) ne.symm,I bC (I au (cH _ _)),lm,kd,lt,ne,ok,sg,ac J⟩;exact cL (v:= .ref (Y7 d)) (.ty .nil (.new J)) (.lo J) (.i (bH g) J (by refine(?_ :12<=900);exact ac J)) k
section
variable{C:Cy}{L:bS}{h j w:H}{s:aF}{e y:E}{r:ag E}{u t:aD}{v:V}
theorem Ev.OZ(a:Ev C e L h v j):Ev C (.jr [e]) L h v j:=λQ q=>a _ q
theorem Ev.or(a:Ev C e L h (.bool u) j)(b:Ev C (.jr (y::r)) L j (.bool t) w)(k:u=am->j=w):Ev C (.jr (e::y::r)) L h (.bool (u||t)) w:=λQ q=>a _ (by
 induction u with
 |true=>exact aW am J (k J▸q)
 |false=>exact aW ai J (b Q q))
theorem Ev.jQ{a d:aF}{i:D}(e:L[i]? =ae (ae (.int s))):Et C (.jQ .LtE .LtE (.c (.int a)) (.l i) (.c (.int d))) L h (decide (a<=s)&&decide (s<=d)) h:=by
 by_cases q:a<=s
 ·exact I (aR q) (.jQ .co (.lo e) (.int (UG q)) .co (.int J))
 ·exact I (aO q) (.Sz .co (.lo e) (.int (UH q)))
end
theorem Ev.c2{C:Cy}{L:bS}{h:H}{s a d:aF}{i:D}(e:L[i]? =ae (ae (.int s))):Ev C (.jQ .LtE .LtE (.c (.int a)) (.l i) (.c (.int d))) L h (.bool (decide (a<=s)&&decide (s<=d))) h:=λQ q=>Ev.jQ e (λt=>Q (.bool t)) q
theorem Ev.eq{C:Cy}{L:bS}{h:H}{s a:aF}{i:D}(e:L[i]? =ae (ae (.int s))):Ev C (.cj .Eq (.l i) (.c (.int a))) L h (.bool (s==a)) h:= .cj (.lo e) .co (.int J)
noncomputable def dg(s:aF):aD:=decide (48<=s)&&decide (s<=57)
noncomputable def lt(s:aF):aD:=(decide (65<=s)&&decide (s<=90))||((decide (97<=s)&&decide (s<=122))||s==95)
noncomputable def bl(s:aF):aD:=s==32||(decide (9<=s)&&decide (s<=13))
noncomputable def nl(s:aF):aD:=[10,13].contains s
section
variable{c:Lc}{x:Lx}{b:ag D}{f h:H}{n:D}{s:aF}{X:Prop}
theorem LH.ii(q:LH c x b f h)(o:O):LH c x b f (h++[o]):=
 {q with gO:=bH q.gO,jF:=bH q.jF,fr:=λm o g a=>bH (q.fr m o g a),sz:=I au (az q.sz (cH _ _))}
theorem yY:Ru X (n+1) 15 [.int s] h (.bool (dg s)) h:=λQ k=>(bQ _ rfl J (cJ (.c2 J) k))
theorem FH:Ru X (n+1) 16 [.int s] h (.bool (lt s)) h:=λQ k=>(bQ _ rfl J (cJ (.or (.c2 J) (.or (.c2 J) (.OZ (.eq J)) λa=>rfl) λa=>rfl) k))
theorem Mv:Ru X (n+2) 17 [.int s] h (.bool (lt s||dg s)) h:=λQ k=>(bQ _ rfl J (cJ (.or (.fn (.cons (.lo J) .nil) FH) (.OZ (.fn (.cons (.lo J) .nil) yY)) λa=>rfl) k))
theorem Mw:Ru X (n+1) 18 [.int s] h (.bool (bl s)) h:=λQ k=>(bQ _ rfl J (cJ (.or (.eq J) (.OZ (.c2 J)) λa=>rfl) k))
theorem mz{K:jR}{is:ag aF}{m:D}(g:h[m]? =ae (.bq (is.map .int))):Br K h (.int s) (.ref m) (is.contains s):=by
 have a:js (.int s) (is.map .int)=am:=by
  unfold js
  refine I lT ?_
  exact aS.mpr λb b=>rfl
 have e:uI (.int s) (is.map .int)=is.contains s:=by
  unfold uI
  refine I tI ?_;refine I J7 ?_
  congr 1
  funext i
  refine(?_ :(ae (s==i)==ae am)=(s==i))
  cases s==i<;>rfl
 exact e▸.seq (.inr g) a
theorem BL:Ru X (n+1) 20 [.int s] h (.bool (nl s)) (h++[.bq [.int 10,.int 13]]):=λQ k=>(bQ _ rfl J (cJ (.cj (.lo J) (.bq (.cons .co (.cons .co .nil))) (.s7 (mz (is:=[10,13]) bD))) k))
theorem Om(q:LH c x b f h)(p:x.pos<=9000)(l:0<=x.line/\x.line<=100000)(e:nl (eP c.t (x.pos+1))=ai):∃A,Ru X (n+2) 34 [.ref c.X] h .none A/\LH c {x with pos:=x.pos+1,cA:=eP c.t (x.pos+1),line:=x.line+1} b f A:=by
 refine aM (nG (X:=X) (n:=n) q (az p (ac J))) λo B v=>?_;have r:=v.ii (.bq [.int 10,.int 13]);have u:=r.uY (x':={x with pos:=x.pos+1,cA:=eP c.t (x.pos+1),line:=x.line+1}) J r.sg;have z:=BL (X:=X) (n:=n) (s:=eP c.t (x.pos+1)) (h:=o);rw[e] at z;refine aW _ (λQ k=>(bQ _ rfl J (cZ (q.at (a:=18) J J J) (ia (.me (.lo J) (q.fn J J) .nil B (ac J)) (bm (.hZ (.of J (.fn (.cons (v.at (a:=18) J J J) .nil) z) J)) ?_))))) u;exact ub (.lo J) (.i r.gO J J) .co (nT x.line 1 J J (jt (yq (⟨j5 0x3502cac9b80ac8 J l.1,j5 0xd6b61c69c5c0bab6227a0240 J l.2⟩)) J)) (r.set (x':={x with pos:=x.pos+1,cA:=eP c.t (x.pos+1),line:=x.line+1}) J J) (bm (.cj (u.at (a:=19) J J J) .co (.int (aL ae (aO (j5 0xe28ac902b9679e79e79cfbab6227a0240 J l.2))))) k)
theorem Kz(q:LH c x b f h)(p:x.pos<=9000)(l:0<=x.line/\x.line<=100000)(g:x.cA=32\/x.cA=10)(e:nl (eP c.t (x.pos+1))=ai):∃B,Ru X (n+3) 37 [.ref c.X] h (.bool am) B/\LH c {x with pos:=x.pos+1,cA:=eP c.t (x.pos+1),line:=x.line+(if x.cA=10 then 1 else 0)} b f B:=by
 have i:=q.ii (.bq [.int 10,.int 13]);have o:=BL (X:=X) (n:=n+1) (s:=x.cA) (h:=h);have m:=q.at (X:=X) (n:=n+2) (L:=[ae (.ref c.X)]) (a:=18) J J J;rcases g with g|g
 ·refine aM (nG (X:=X) (n:=n+1) i (az p (ac J))) λd u r=>?_;have z:=Mw (X:=X) (n:=n+1) (s:=x.cA) (h:=h++[.bq [.int 10,.int 13]]);rw[show nl x.cA=ai from I g J] at o;rw[show bl x.cA=am from I g J] at z;exact aW d (λQ k=>(bQ _ rfl J (bm (.of J (.fn (.cons m .nil) o) J) (bT (.of J (.fn (.cons (i.at (a:=18) J J J) .nil) z) J) (ia (.me (.lo J) (i.fn J J) .nil u (ac J)) (cJ .co k)))))) (I g (cM (aa J) (I (dT ..) r)))
 ·refine aM (Om (X:=X) (n:=n) i p l e) λd u r=>?_;rw[show nl x.cA=am from I g J] at o;exact aW d (λQ k=>(bQ _ rfl J (bT (.of J (.fn (.cons m .nil) o) J) (ia (.me (.lo J) (i.fn J J) .nil u (ac J)) (cJ .co k))))) (dG g r)
theorem D9(q:LH c x b f h)(p:x.pos<=9000):Ru X (n+1) 38 [.ref c.X] h (.int (eP c.t (x.pos+1))) h:=λQ k=>(bQ _ rfl J (cJ (v:= .int (eP c.t (x.pos+1))) (λQ k=>by
 have g:=q.at (X:=X) (n:=n) (L:=[ae (.ref c.X)]) (a:=9) J J J;have d:Ev (Cn X n) (.dy .Add (.at (.l 0) 17) (.c (.int 1))) [ae (.ref c.X)] h (.int ((x.pos+1:D):aF)) h:= .dy (q.at (a:=17) J J J) .co (.int (jt (yq (⟨bO 0xd6b02cac9 J,bO 0x35ad871a717ac0ba069b280 J p⟩)) J));by_cases e:x.pos+1<c.t.length
 ·refine Et.cj (op:= .Lt) (t:=am) d (xV g q.ok.1) (.int (aL ae (aR (f8.mpr e)))) _ (B4 g d q.ok.1 (aI e) _ ?_);unfold eP at k;rwa [aI e] at k
 ·refine Et.cj (op:= .Lt) (t:=ai) d (xV g q.ok.1) (.int (aL ae (aO λh=>e (f8.mp h)))) _ ?_;unfold eP at k;rwa [dF (pU.mp e)] at k) k))
theorem Da(q:LH c x b f h)(p:x.pos<=9000)(u:bl x.cA=ai)(r:nl x.cA=ai)(m:x.cA≠45\/eP c.t (x.pos+1)≠45):∃o,Ru X (n+3) 37 [.ref c.X] h (.bool ai) o/\LH c x b f o:=by
 have g:=q.ii (.bq [.int 10,.int 13]);have l:=BL (X:=X) (n:=n+1) (s:=x.cA) (h:=h);have i:=Mw (X:=X) (n:=n+1) (s:=x.cA) (h:=h++[.bq [.int 10,.int 13]]);rw[r] at l;rw[u] at i;have e:=g.at (X:=X) (n:=n+2) (L:=[ae (.ref c.X)]) (a:=18) J J J;refine aW _ (λQ k=>(bQ _ rfl J (bm (.of J (.fn (.cons (q.at (a:=18) J J J) .nil) l) J) (bm (.of J (.fn (.cons e .nil) i) J) (bm ?_ (cJ .co k)))))) g;by_cases d:x.cA=45
 ·exact .du (.cj e .co (.int (aL ae (a6.mpr d)))) (.hZ (.cj (.me (.lo J) (g.fn J J) .nil (D9 g p) (ac J)) .co (.int (aL ae (aK.mpr (m.resolve_left λz=>z d))))))
 ·exact .hZ (.cj e .co (.int (aL ae (aK.mpr d))))
end
theorem vv{h:H}{a b:O}:(h++[a]).set h.length b=h++[b]:=I (uu _ _ (aE _)) (I (je ..) J)
theorem eV{h:H}{c a:D}{b:ag (D×V)}{v:V}(f:P.fld c a=am)(l:(Y7 b)<=900):qh P.fld (h++[.inst c b]) (.ref h.length) a v (h++[.inst c (setField a v b)]):=(tU h.length c b J bD f l vv.symm)
def Nw(X:Prop)(n c:D)(vs:ag V)(h a:H):Prop:=∀Q:P1,Q (.ref h.length) a->P.call am X n (.cls c) vs Q h
section
variable{X:Prop}{n:D}{L:bS}{h B F:H}{vs:ag V}{es:ag E}
theorem Ev.cls{c:D}(a:mC (Cn X n) es L h vs B)(r:Nw X n c vs B F):Ev (Cn X n) (.ca (.c (.cls c)) es) L h (.ref (Y7 B)) F:=λQ q=>Sj a (r Q q)
theorem sO{k v:V}:Nw X (n+2) 3 [k,v] h (h++[.inst 3 [(12,k),(10,v)]]):=λQ q=>⟨23,[],rfl,_,rfl,rfl,cL (.lo J) (.lo J) (eV J (bU _)) (cL (.lo J) (.lo J) (eV J (by show 1<=900;exact ac J)) ⟨rfl,q⟩)⟩
theorem ci{k l p:V}:Nw X (n+2) 5 [k,l,p] h (h++[.inst 5 [(12,k),(19,l),(46,p)]]):=λQ q=>⟨46,[],rfl,_,rfl,rfl,cL (.lo J) (.lo J) (eV J (bU _)) (cL (.lo J) (.lo J) (eV J (by show 1<=900;exact ac J)) (cL (.lo J) (.lo J) (eV J (by show 2<=900;exact ac J)) ⟨rfl,q⟩))⟩
end
def Tk(c:Lc)(x:Lx)(j:H)(k:aF)(v:V)(m:D)(a:H):Prop:=a[m]? =ae (.inst 3 [(12,.int k),(10,v)])/\Y7 j<=m/\∃b,LH c x b j a
def rx(C:Cy)(c:Lc)(x:Lx)(j:H)(k:aF)(v:V)(ss:ag S)(L:bS)(h:H):Prop:=∀Q:PS,(∀m a G,Tk c x j k v m a->Q (.ret (.ref m)) G a)->cD C ss L Q h
def vo(X:Prop)(n f:D)(vs:ag V)(c:Lc)(x:Lx)(j:H)(k:aF)(v:V)(h:H):Prop:=∀Q:P1,(∀m a,Tk c x j k v m a->Q (.ref m) a)->P.call am X n (.fn f) vs Q h
section
variable{c:Lc}{x A:Lx}{b:ag D}{j h B:H}{n:D}{s:aF}{X:Prop}{k:aF}{v:V}{ss a d:ag S}{L G:bS}{e e':E}
theorem rx.step{C:Cy}{a:ag S}(z:rx C c x j k v a G B)(g:∀Q:PS,cD C a G Q B->cD C ss L Q h):rx C c x j k v ss L h:=λQ q=>g Q (z Q q)
theorem gX(q:LH c x b j h)(z:Ev (Cn X (n+2)) e L h (.int k) h)(y:Ev (Cn X (n+2)) e' L h v h):rx (Cn X (n+2)) c x j k v (.re (ae (.ca (.c (.cls 3)) [e,e']))::ss) L h:=
 λQ g=>cJ (.cls (.cons z (.cons y .nil)) sO) (g _ _ _ ⟨bD,q.sz,_,q.ii _⟩)
theorem vo.re{f a:D}{w:V}{vs:ag V}{es:ag E}{o:E}{F:H}(z:vo X n f (w::vs) c x j k v F)(y:Ev (Cn X n) o L h w B)(g:Fy P.fI B w a f)(u:mC (Cn X n) es L B vs F)(d:a<1000):rx (Cn X n) c x j k v (.re (ae (.me o a es))::ss) L h:=λQ q=>s9 y g u (z (λv b=>Q (.ret v) L b) λm b t=>q m b L t) d
noncomputable abbrev rL(c:Lc)(s:aF):bS:=[some (.ref c.X),some (.int s)]
theorem zy{C:Cy}{a:aF}(b:s≠a):Et C (.cj .Eq (.l 1) (.c (.int a))) (rL c s) h ai h:= .cj (.lo J) .co (.int (aL ae (aK.mpr b)))
theorem yW{C:Cy}{a:aF}(e:s=a):Et C (.cj .Eq (.l 1) (.c (.int a))) (rL c s) h am h:= .cj (.lo J) .co (.int (aL ae (a6.mpr e)))
theorem Jj{C:Cy}{is:ag aF}{t:aD}(w:mC C (is.map λi=> .c (.int i)) (rL c s) h (is.map .int) h)(e:is.contains s=t):Et C (.cj .In (.l 1) (.bq (is.map λi=> .c (.int i)))) (rL c s) h t (h++[.bq (is.map .int)]):=e▸.cj (.lo J) (.bq w) (.s7 (mz bD))
theorem Ik(q:LH c x b j h)(p:x.pos<=9000)(e:s=45):rx (Cn X (n+2)) c {x with pos:=x.pos+1,cA:=eP c.t (x.pos+1)} j 45 .none (xf.drop 9) (rL c s) h:=aM (nG (X:=X) (n:=n+1) q (az p (ac J))) λd l f=>(gX (X:=X) (n:=n) (ss:=[]) (L:=rL c s) (k:=45) f .co .co).step λQ g=>bT (yW e) (ia (.me (.lo J) (q.fn J J) .nil l (ac J)) g)
theorem kN(q:LH c x b j h)(e:s=x.cA)(z:rx (Cn X n) c A j k v (xf.drop 3) (rL c s) h):rx (Cn X n) c A j k v (xf.drop 2) [ae (.ref c.X),none] h:=z.step λQ g=>cZ (q.at (a:=18) J J J) (e▸g)
theorem xK(b:s≠-1)(a:[34,39].contains s=ai)(z:rx (Cn X n) c A j k v (xf.drop 5) (rL c s) (h++[.bq (([34,39]:ag aF).map .int)])):rx (Cn X n) c A j k v (xf.drop 3) (rL c s) h:=
 z.step λQ g=>bm (zy b) (bm (Jj (is:=[34,39]) (.cons .co (.cons .co .nil)) a) g)
theorem BS(b:s≠91)(a:s≠46)(z:rx (Cn X n) c A j k v (xf.drop 7) (rL c s) h):rx (Cn X n) c A j k v (xf.drop 5) (rL c s) h:=z.step λQ g=>bm (zy b) (bm (zy a) g)
theorem Jp(b:dg s=ai)(a:lt s=ai)(z:rx (Cn X (n+1)) c A j k v (xf.drop 9) (rL c s) h):rx (Cn X (n+1)) c A j k v (xf.drop 7) (rL c s) h:=
 z.step λQ g=>bm (.of J (.fn (.cons (.lo J) .nil) (b▸yY)) J) (bm (.of J (.fn (.cons (.lo J) .nil) (a▸FH)) J) g)
theorem OI(q:LH c x b j h)(p:x.pos<=9000)(u:s≠45)(r:[61,60,62,126].contains s=ai):rx (Cn X (n+2)) c {x with pos:=x.pos+1,cA:=eP c.t (x.pos+1)} j s .none (xf.drop 9) (rL c s) h:=by
 have d:=q.ii (.bq (([61,60,62,126]:ag aF).map .int));exact aM (nG (X:=X) (n:=n+1) d (az p (ac J))) λf o i=>(gX (X:=X) (n:=n) (ss:=[]) (L:=rL c s) (k:=s) (e:= .l 1) i (.lo J) .co).step λQ g=>bm (zy u) (bm (Jj (is:=[61,60,62,126]) (.cons .co (.cons .co (.cons .co (.cons .co .nil)))) r) (ia (.me (.lo J) (d.fn J J) .nil o (ac J)) g))
theorem MD(q:LH c x b j h)(p:x.pos<=9000):
  (eP c.t (x.pos+1)≠61->rx (Cn X (n+3)) c {x with pos:=x.pos+1,cA:=eP c.t (x.pos+1)} j 61 .none (xf.drop 9) (rL c 61) h)/\
  (eP c.t (x.pos+1)=61->rx (Cn X (n+3)) c {x with pos:=x.pos+2,cA:=eP c.t (x.pos+2)} j 280 .none (xf.drop 9) (rL c 61) h):=by
 have v:=q.ii (.bq (([61,60,62,126]:ag aF).map .int));refine aM (nG (X:=X) (n:=n+1) v (az p (ac J))) λd M u=>?_;have r:∀{k A},rx (Cn X (n+2)) c A j k .none (WS.drop 1) (rL c 61) d->rx (Cn X (n+3)) c A j k .none (xf.drop 9) (rL c 61) h:=λ{k A} z Q g=>
  bm (zy (aa J)) (bT (Jj (is:=[61,60,62,126]) (.cons .co (.cons .co (.cons .co (.cons .co .nil)))) J) (vo.re (X:=X) (n:=n+3) (ss:=[]) (f:=39) (w:= .ref c.X) (vs:=[.int 61]) (λQ g=>(bQ _ rfl J (ia (.me (.lo J) (v.fn J J) .nil M (ac J)) (z (rt Q) λm H N t=>g m H t)))) (.lo J) (v.fn J J) (.cons (.lo J) .nil) (ac J) Q g))
 have s:Et (Cn X (n+2)) (.cj .NotEq (.at (.l 0) 18) (.c (.int 61))) (rL c 61) d (!(eP c.t (x.pos+1)==61)) d:= .cj (u.at (a:=18) J J J) .co (.int J);refine⟨λi=>r ?_,λi=>r ?_⟩
 ·rw[aK.mpr i] at s;exact(gX (X:=X) (n:=n) (ss:=[]) (L:=rL c 61) (k:=61) (e:= .l 1) u (.lo J) .co).step λQ g=>bT s g
 ·rw[a6.mpr i] at s;exact aM (nG (X:=X) (n:=n+1) u (by refine(?_ :x.pos+1<=_);exact bO 0xd5865f2a8240ba069b280 J p)) λC K E=>(gX (X:=X) (n:=n) (ss:=[]) (L:=rL c 61) (k:=280) (e:= .c (.int 280)) E .co .co).step λQ g=>bm s (ia (.me (.lo J) (u.fn J J) .nil K (ac J)) (bT (yW J) g))
end
noncomputable def Sg(t:ag D)(p:D):ag D->aF->Prop
 |[],e=>eP t p=e
 |a::r,e=>eP t p=a/\Sg t (p+1) r e
noncomputable def Lx.go(x:Lx)(k:D)(e:aF):Lx:={x with pos:=x.pos+k,cA:=e}
section
variable{c:Lc}{x:Lx}{b:ag D}{f h:H}{n:D}{s:aF}{X:Prop}
theorem Cu{e:aF}(O:(lt e||dg e)=ai){L:bS}(E:L[0]? =ae (ae (.ref c.X))){i:ag D}(q:LH c x b f h)(v:x.cA=eP c.t x.pos)(j:Sg c.t x.pos i e)(z:∀a∈i,lt a=am)(p:x.pos+Y7 i<=9000)(l:b.length+Y7 i<=8000){C:ag S}{Q:PS}
  (k:∀o,LH c (x.go (Y7 i) e) (b++i) f o->cD (Cn X (n+2)) C L Q o):cD (Cn X (n+2)) (.wh (.ca (.c (.fn 17)) [.at (.l 0) 18]) [.ex (.me (.l 0) 29 [])]::C) L Q h:=by
 refine oY (λm H o=>∃w y d,m=w.length/\H=L/\LH c y d f o/\y.cA=eP c.t y.pos/\Sg c.t y.pos w e/\(∀a∈w,lt a=am)/\y.pos+w.length<=9000/\d.length+w.length<=8000/\y.go w.length e=x.go (Y7 i) e/\d++w=b++i) (Y7 i) (tU i x b J J q v (GU j z p l ⟨rfl,rfl⟩)) λm H o s=>Ml s λw y d R P q v u=>?_;clear s;refine NX u λj z p l G B=>?_;clear u;subst R P;refine dO _ o (.of J (.fn (.cons (q.at (a:=18) E J J) .nil) Mv) J) ?_;cases w with
 |nil=>
  have j:=j;refine I v (I j (I O (cM aC ?_)));rw[bz] at B;exact k o (B▸G▸(I (aQ j) (I (aQ v) q)))
 |cons a r=>
  refine cv j λM K=>?_;clear j;have A:=v.trans M;refine I A (I (z a (.head _)) (I (Bool.true_or ..) (dG J ?_)));rw[bv] at p l;refine aM (oN (X:=X) (n:=n) q (I A (bN a)) (dw 0xd5865f280ba069b2a8a09040 J p) (dw 0xda069b280b98727268a09040 J l)) λF g N=>ia (.me (.lo E) (q.fn J J) .nil g (ac J)) ⟨r.length,dc _,r,_,_,rfl,rfl,N,rfl,K,λa h=>z a (.tail _ h),by refine(?_ :y.pos+1+_<=_);exact dw 0xd6069b2a8068240ba069b2a8a09040 J p,by refine I au (?_ :_+1+_<=_);exact dw 0xd58727268068240b98727268a09040 J l,?_,?_⟩
  ·refine I (aQ G) ?_;unfold Lx.go;refine I bv (I (Nat.add_assoc ..) ?_);rw[tG 1]
  ·exact I (aQ B) (I A (I (a7 ..) J))
theorem Hu{L:bS}(d:L[0]? =ae (ae (.ref c.X)))(q:LH c x b f h):Ev (Cn X n) (.ca (.c (.ty 3)) [.at (.l 0) 21]) L h (.bytes b) h:= .ty (.cons (q.at (a:=21) d J J) .nil) (.f7 q.jF (az q.len (ac J)))
theorem K8{b:ag D}{e:aF}(q:LH c x [] f h)(z:x.cA=eP c.t x.pos)(w:Sg c.t x.pos b e)(A:∀a∈b,lt a=am)(y:(lt e||dg e)=ai)(p:x.pos<=8000)(l:(Y7 b)<=100){k:aF}{v:V}
  (s:xh (.bytes b) fk/\((dp (.bytes b) fk=ax/\k=285/\v= .bytes b)\/(dp (.bytes b) fk=some (.int k)/\v= .none))):vo X (n+3) 41 [.ref c.X] c (x.go (Y7 b) e) f k v h:=λQ g=>(bQ _ rfl J (Cu y J q z w A (dw 0xd6069b2a8040b9c381b98727240 J p l) (by refine(?_ :0+_<=_);exact bO 0xd58727268008b9c380 J l) λr d=>by
 have o:=d.fr _ _ d.kd d.ne.2;refine cZ (Hu J d) (cZ (v:=(dp (.bytes b) fk).getD .none) (.vV (k:=3) (d.at (a:=16) J J J) (Bq.dict o) (.cons (.lo J) .nil) (.get o s.1) (aa J)) ?_);rcases s.2 with⟨i,rfl,rfl⟩|⟨i,rfl⟩
 ·exact I i (Et.cj (t:=am) (.lo J) .co .none _ ((gX (X:=X) (n:=n) (ss:=[]) (L:=[some (.ref c.X),some (.bytes b),some .none]) (k:=285) (e:= .c (.int 285)) (e':= .l 1) d .co (.lo J)) (rt Q) λm j u t=>g m j t))
 ·exact I i (Et.cj (t:=ai) (.lo J) .co .none _ ((gX (X:=X) (n:=n) (ss:=[]) (L:=[some (.ref c.X),some (.bytes b),some (.int k)]) (k:=k) (e:= .l 2) (e':= .c .none) d (.lo J) .co) (rt Q) λm j u t=>g m j t))))
theorem Ev.hO{C:Cy}{L:bS}{h l k j c:H}{o e i:E}{x y u v:V}(a:Ev C o L h x l)(b:Ev C e L l y k)(d:Ev C i L k u j)(g:yr C.K j x y u v c):Ev C (.hO o (ae e) (ae i)) L h v c:=λQ q=>a _ (b _ (d _ (dO v c g q)))
theorem Ek{a:D}{e:aF}(q:LH c x [] f h)(F:x.cA=39)(H:Sg c.t (x.pos+1) [a,39] e)(r:lt a=am)(p:x.pos<=8000):vo X (n+3) 45 [.ref c.X,.int 39] c (x.go 3 e) f 286 (.bytes [a]) h:=by
 refine i7 H λN M K=>?_;have B:nl a=ai:=by
  unfold nl
  cases O:[10,13].contains (a:aF) with
  |false=>rfl
  |true=>
   rcases(show(a:aF)=10\/(a:aF)=13 by simpa using O) with z|z<;>(rw[z] at r;exact ft r)
 refine aM (oN (X:=X) (n:=n) q (j5 0xd40ac8c2b7ca034 J F) (bO 0xd5865f280b98727240 J p) (by refine(?_ :0<9000);exact ac J)) λi U y=>?_;rw[N,F] at y;have j:=y.ii (.bq [.int 10,.int 13]);refine aM (oN (X:=X) (n:=n) j (bN a) (by refine(?_ :x.pos+1<=_);exact bO 0xd5865f2a8240b98727240 J p) (by refine(?_ :1<9000);exact ac J)) λd T u=>?_;change LH c ((x.go 1 a).go 1 (eP c.t (x.pos+1+1))) [39,a] f d at u;rw[M] at u;refine aM (oN (X:=X) (n:=n) u (by refine(?_ :(0:aF)<=39);exact aa J) (by refine(?_ :x.pos+1+1<=_);exact bO 0xd5865f2a8268240b98727240 J p) (by refine(?_ :2<9000);exact ac J)) λv S o=>?_;change LH c (((x.go 1 a).go 1 39).go 1 (eP c.t (x.pos+1+1+1))) [39,a,39] f v at o;rw[show eP c.t (x.pos+1+1+1)=e from K] at o;have E:=BL (X:=X) (n:=n+1) (s:=a) (h:=i);rw[B] at E;have l:=y.at (X:=X) (n:=n+2) (L:=rL c 39) (a:=18) J J J;refine λQ g=>(bQ _ rfl J (ia (.me (.lo J) (q.fn J J) .nil U (ac J)) (oY (λm G A=>G=rL c 39/\((m=1/\A=i)\/(m=0/\A=d))) 1 ⟨rfl,.inl ⟨rfl,rfl⟩⟩ λm G A ⟨R,P⟩=>?_)));subst R;rcases P with⟨rfl,rfl⟩|⟨rfl,rfl⟩
 ·exact dO am _ (.cj l (.lo J) (.int (show n6 .NotEq (a:aF) 39=ae am from aL (λb=>ae (!b)) (aK.mpr (λz=>by rw[z] at r;exact ft r))))) (dG J (bm (.cj l .co (.int (aL ae (aK.mpr (bO 0xeacac9ac0 J))))) (bm (.of J (.fn (.cons l .nil) E) J) (bm (.cj (j.at (a:=18) J J J) .co (.int (show n6 .Eq (a:aF) 92=ae ai from aL ae (aK.mpr (λz=>by rw[z] at r;exact ft r))))) (ia (.me (.lo J) (j.fn J J) .nil T (ac J)) (bQ 0 tS J (.inr ⟨rfl,rfl⟩)))))))
 ·refine dO ai _ (.cj (u.at (a:=18) J J J) (.lo J) (.int J)) (cM aC (ia (.me (.lo J) (u.fn J J) .nil S (ac J)) ?_));have w:=o.at (X:=X) (n:=n+2) (L:=rL c 39) (a:=21) J J J;have C:=o.ii (.f7 [a]);refine cJ (.cls (.cons .co (.cons (.ty (.cons (.hO w .co (.dy (.bi (.cons w .nil) (nD.f7 o.jF (by refine(?_ :3<=dW);exact ac J))) .co (tA.int (k:=(3:aF)-1) (mJ (a:=3) J J))) (yr.f7 o.jF J J (by refine(?_ :3<=dW);exact ac J))) .nil) (Fu.f7 (xs:=[a]) bD (by refine(?_ :1<=dW);exact ac J))) .nil)) sO) (g _ _ ⟨bD,C.sz,_,C.ii _⟩)
end
section
variable{c:Lc}{x:Lx}{b:ag D}{f h:H}{n:D}{s:aF}{X:Prop}
theorem HX{e:aF}(q:LH c x b f h)(r:x.cA=91)(u:eP c.t (x.pos+1)=e)(A:e≠61)(z:e≠91)(p:x.pos<=8000)(l:b.length<=8000):∃i,Ru X (n+3) 44 [.ref c.X] h (.int (-1)) i/\LH c (x.go 1 e) (b++[91]) f i:=by
 refine aM (oN (X:=X) (n:=n) q (j5 0xd40ac8c2b8cd034 J r) (bO 0xd5865f280b98727240 J p) (bO 0xda069b280b98727240 J l)) λd g o=>?_;rw[u,r] at o;refine aW d (λQ k=>(bQ _ rfl J (cZ (v:= .int 91) (r▸q.at (a:=18) J J J) (cZ .co (ia (.me (.lo J) (q.fn J J) .nil g (ac J)) (oY (λm s i=>s=[some (.ref c.X),some (.int 91),some (.int 0)]/\i=d) 0 ⟨rfl,rfl⟩ λm s i ⟨y,w⟩=>?_)))))) o;subst y w;have j:=o.at (X:=X) (n:=n+2) (L:=[some (.ref c.X),some (.int 91),some (.int 0)]) (a:=18) J J J;exact dO ai _ (.cj j .co (.int (aL some (aK.mpr A)))) (cM aC (Et.cj (op:= .Eq) (t:=ai) j (.lo J) (.int (aL some (aK.mpr z))) _ (Ev.dy (.neg (.lo J)) .co (tA.int (k:= -0-1) (mJ (a:= -0) J J)) _ k)))
theorem Cv{e:aF}(q:LH c x [] f h)(d:x.cA=91)(i:eP c.t (x.pos+1)=e)(o:e≠61)(l:e≠91)(p:x.pos<=8000):vo X (n+4) 43 [.ref c.X] c (x.go 1 e) f 91 .none h:=aM (HX (X:=X) (n:=n) q d i o l p (bU _)) λa g b=>λQ k=>(bQ _ rfl J (cZ (.me (.lo J) (q.fn J J) .nil g (ac J)) (bm (.cj (.lo J) .co (.int J)) (bm (.cj (.lo J) (.neg .co) (.int J)) (gX (X:=X) (n:=n+1) (ss:=[]) (L:=[some (.ref c.X),some (.int (-1))]) (k:=91) b .co .co (rt Q) λm j r t=>k m j t)))))
theorem sQ(q:LH c x b f h){m:D}{is:ag aF}(g:h[m]? =some (.bq (is.map .int)))(j:is.contains x.cA=am->0<=x.cA)(p:x.pos<=9000)(l:b.length<=8000):
  (is.contains x.cA=ai->Ru X (n+3) 32 [.ref c.X,.ref m] h (.bool ai) h)/\
  (is.contains x.cA=am->∃i,Ru X (n+3) 32 [.ref c.X,.ref m] h (.bool am) i/\LH c (x.go 1 (eP c.t (x.pos+1))) (b++[x.cA.toNat]) f i):=by
 have t:Et (Cn X (n+2)) (.cj .NotIn (.at (.l 0) 18) (.l 1)) [some (.ref c.X),some (.ref m)] h (!is.contains x.cA) h:= .cj (q.at (X:=X) (n:=n+2) (L:=[some (.ref c.X),some (.ref m)]) (a:=18) J J J) (.lo J) (.MO (mz g));refine⟨λe Q k=>?_,λe=>?_⟩
 ·rw[e] at t;exact bQ _ rfl J (bT t (cJ .co k))
 ·rw[e] at t;exact aM (oN (X:=X) (n:=n) q (j e) (bO 0xd5865f280ba069b280 J p) (bO 0xda069b280b98727240 J l)) λd r o=>aW d (λQ k=>(bQ _ rfl J (bm t (ia (.me (.lo J) (q.fn J J) .nil r (ac J)) (cJ .co k))))) o
theorem Qn{C:Cy}{L:bS}{is:ag aF}(w:mC C (is.map λi=> .c (.int i)) L h (is.map .int) h):mC C [.bq (is.map λi=> .c (.int i))] L h [.ref h.length] (h++[.bq (is.map .int)]):= .cons (.bq w) .nil
theorem La{u:D}{e:aF}(q:LH c x [] f h)(W:x.cA=46)(o:Sg c.t (x.pos+1) (cE u 46) e)(d:u<=2)(e1:e≠46)(e2:dg e=ai)(p:x.pos<=8000):
  vo X (n+5) 40 [.ref c.X] c (x.go (u+1) e) f (if u=0 then 46 else if u=1 then 278 else 279) .none h:=by
 refine aM (oN (X:=X) (n:=n+2) q (j5 0xd40ac8c2b98a034 J W) (bO 0xd5865f280b98727240 J p) (by refine(?_ :0<9000);exact ac J)) λO N F=>?_
 have j:=F.ii (.bq (([46]:ag aF).map .int))
 have w:∀{h:H},mC (Cn X (n+4)) [.bq [.c (.int 46)]] [ae (.ref c.X)] h [.ref h.length] (h++[.bq (([46]:ag aF).map .int)]):=Qn (is:=[46]) (.cons .co .nil)
 have v:∀{i:aF},[46].contains i=am->0<=i:=λ{i} z=>I (show i=46 by simpa using z) (aa J)
 refine cv (sQ (X:=X) (n:=n+1) (is:=[46]) j bD v (by refine(?_ :x.pos+1<=_);exact bO 0xd6069b2a8240b98727240 J p) (by refine(?_ :1<=8000);exact ac J)) λP f2=>?_
 have r:[46].contains e=ai:=by simpa using e1
 match u,d,o with
 |0,_,o=>
  have o:=o
  rw[o] at F j P
  have M:Ev (Cn X (n+4)) (.ca (.c (.fn 15)) [.at (.l 0) 18]) [ae (.ref c.X)] _ (.bool (dg e)) _:= .fn (.cons (j.at (a:=18) J J J) .nil) yY
  rw[e2] at M
  exact λQ k=>(bQ _ rfl J (ia (.me (.lo J) (q.fn J J) .nil N (ac J)) (bm (.me (.lo J) (F.fn J J) w (P r) (ac J) J) (bm (.of J M J) (gX (X:=X) (n:=n+2) (ss:=[]) (L:=[ae (.ref c.X)]) (k:=46) j .co .co (rt Q) λm C x_ t=>k m C t)))))
 |d+1,dl,o=>
  refine cv o λT b=>?_;clear o
  refine aM (f2 (I (T) J)) λB V K=>?_
  have y:=K.ii (.bq (([46]:ag aF).map .int))
  refine cv (sQ (X:=X) (n:=n+1) (is:=[46]) y bD v (by refine(?_ :x.pos+1+1<=_);exact bO 0xd6069b2a8268240b98727240 J p) (by refine I au (?_ :1+1<=8000);exact ac J)) λZ Y=>?_
  have E:∀{G:Lx} {k:aF},rx (Cn X (n+4)) c G f k .none [.jC (.me (.l 0) 42 [.bq [.c (.int 46)]]) [.re (ae (.ca (.c (.cls 3)) [.c (.int 279),.c .none]))] [],.re (ae (.ca (.c (.cls 3)) [.c (.int 278),.c .none]))] [ae (.ref c.X)] B->vo X (n+5) 40 [.ref c.X] c G f k .none h:=λ{G k} z Q g=>
   (bQ _ rfl J (ia (.me (.lo J) (q.fn J J) .nil N (ac J)) (bT (.me (.lo J) (F.fn J J) w V (ac J) J) (z _ λm C R t=>g m C t))))
  match d,dl,b with
  |0,_,b=>
   have b:=b
   have s:=y
   change LH c ((x.go 1 (eP c.t (x.pos+1))).go 1 (eP c.t (x.pos+1+1))) _ f _ at s
   rw[b] at s
   exact E ((gX (X:=X) (n:=n+2) (ss:=[]) (L:=[ae (.ref c.X)]) (k:=278) s .co .co).step λQ g=>bm (.me (.lo J) (K.fn J J) w (Z (by refine(?_ :[46].contains (eP c.t (x.pos+1+1))=ai);exact I b r)) (ac J) J) g)
  |1,_,b=>
   refine cv b λ_ _=>?_;clear b;rename_i b S
   refine aM (Y (by refine(?_ :[46].contains (eP c.t (x.pos+1+1))=am);exact I (b) J)) λA U s=>?_
   change LH c (((x.go 1 (eP c.t (x.pos+1))).go 1 (eP c.t (x.pos+1+1))).go 1 (eP c.t (x.pos+1+1+1))) _ f A at s
   rw[show eP c.t (x.pos+1+1+1)=e from S] at s
   exact E λQ g=>bT (.me (.lo J) (K.fn J J) w U (ac J) J) ((gX (X:=X) (n:=n+2) (ss:=[]) (L:=[ae (.ref c.X)]) (k:=279) s .co .co) _ λm C R t=>g m C R t)
end
section
variable{C:Cy}{e:E}{b u:ag S}{Q:PS}{L L2:bS}{h f s A:H}
theorem Ei(a:Et C e L h ai f)(k:cD C u L Q f):cD C (.wh e b::u) L Q h:=oY (λi g d=>g=L/\d=h) 0 ⟨rfl,rfl⟩ λi g d c=>cv c λl j=>by
 subst l j;exact dO ai f a k
theorem Jo(a:Et C e L h am f)(t:∀g:PS,g .next L2 s->cD C b L g f)(a2:Et C e L2 s ai A)(k:cD C u L2 Q A):cD C (.wh e b::u) L Q h:=oY (λm d c=>(m=1/\d=L/\c=h)\/(m=0/\d=L2/\c=s)) 1 (.inl (bX J J J)) λm d c z=>by
 rcases z with⟨rfl,rfl,rfl⟩|⟨rfl,rfl,rfl⟩
 ·exact dO am f a (t _ (aW 0 tS (.inr (bX J J J))))
 ·exact dO ai A a2 k
theorem pY{n:D}{c:ag D}{b:ag V}{r:E}(a:Ev C r L h (.ref n) f)(g:f[n]? =ae (.bq b))(l:(Y7 b)=Y7 c)(k:cD C u (ip L c b) Q f):cD C (.as (.tu c) r::u) L Q h:=a _ (bQ b g l k)
theorem Ev.jC{t o:E}{v:V}(a:Et C e L h ai f)(c:Ev C o L f v s):Ev C (.jP e t o) L h v s:=λQ q=>a _ (c Q q)
theorem Ev.TC{t o:E}{v:V}(a:Et C e L h am f)(c:Ev C t L f v s):Ev C (.jP e t o) L h v s:=λQ q=>a _ (c Q q)
theorem Ev.hZ{b:ag E}{c:E}(a:Ev C e L h (.bool ai) f):Ev C (.du (e::c::b)) L h (.bool ai) f:=λQ q=>a _ (aW ai J q)
theorem o9{b:CmpOp}{l r:E}{i j:aF}{t:aD}(a:Ev C l L h (.int i) f)(c:Ev C r L f (.int j) s)(g:n6 b i j=ae t):Et C (.cj b l r) L h t s:= .cj a c (.int g)
end
theorem lk{h:H}{o:O}:(h++[o])[h.length]? =ae o:=bD
noncomputable abbrev t1:V:= .bytes [49]
section
variable{C:Cy}{X:Prop}{n:D}{L:bS}{h:H}
theorem TN{i:E}(a:L[0]? =ae (ae t1))(q:Ev C i L h (.int 0) h):Ev C (.sub (.l 0) i) L h (.int 49) h:= .sub (.lo a) q (.bytes (k:=0) (x:=49) J J)
theorem JN(a:L[0]? =ae (ae t1)):Ev C (.ca (.c (.bi 0)) [.l 0]) L h (.int 1) h:= .bi (.cons (.lo a) .nil) (.bytes (x:=[49]) (ac J))
theorem KB:Ru X (n+2) 7 [t1,.int 0] h (.int 0) h:=λQ k=>(bQ _ rfl J (Ei (.du (o9 (.lo J) (JN J) J) (.hZ (.of J (.fn (.cons (TN J (.lo J)) .nil) (λQ k=>(bQ _ rfl J (cJ (.cj (.lo J) .co (.s7 (.bytes (i:=49) (ac J)))) k)))) J))) (cJ (.lo J) k)))
theorem KA:Ru X (n+2) 7 [t1,.int 1] h (.int 1) h:=λQ k=>(bQ _ rfl J (Ei (.hZ (o9 (.lo J) (JN J) J)) (cJ (.lo J) k)))
theorem HZ:Ru X (n+1) 5 [.int 49] h (.int 1) h:=λQ k=>(bQ _ rfl J (bT (.jQ .co (.lo J) (.int (t:=am) J) .co (.int J)) (cJ (.dy (.lo J) .co (.int (mJ (a:=49) (b:=48) J J))) k)))
theorem D8:Ru X (n+3) 6 [t1,.int 0,.int 10] h (.ref h.length) (h++[.bq [.int 1,.int 1]]):=λQ k=>(bQ _ rfl J (cZ .co (Jo (L2:=[some t1,some (.int 1),some (.int 10),some (.int 1),some (.int 1)]) (o9 (.lo J) (JN J) J) (λd c=>
 cZ (.fn (.cons (TN J (.lo J)) .nil) HZ) (bm (.jr (o9 (.lo J) .co J) (.jr (o9 (.lo J) (.lo J) J) .NF)) (cZ (.dy (.dy (.lo J) (.lo J) (.int (k:=0) J)) (.lo J) (.int (jt (a:=0) (b:=1) J J))) (cZ (.dy (.lo J) .co (.int (jt (a:=0) (b:=1) J J))) c)))) (o9 (.lo J) (JN J) J) (cJ (.bq (.cons (.lo J) (.cons (.lo J) .nil))) k))))
theorem Ky:Ru X (n+1) 3 [.int 1,.int 64] h (.int 1) h:=λQ k=>(bQ _ rfl J (cZ (v:= .int 1) (.dy (.lo J) (.dy (.dy .co (.lo J) (.int (k:=18446744073709551616) J)) .co (.int (mJ J J))) (.int J)) (bm (o9 (.lo J) (.dy .co (.dy (.lo J) .co (.int (mJ (a:=64) (b:=1) J J))) (.int (k:=9223372036854775808) J)) J) (cJ (.lo J) k))))
theorem Oj{c:D}(g:h[c]? =ae (.inst 0 y8)):Ru X (n+5) 8 [t1,.ref c] h (.int 1) ((h++[.bq [.int 0,.bool ai]])++[.bq [.int 1,.int 1]]):=λQ k=>(bQ _ rfl J (cJ (.fn (.cons (.lo J) (.cons .co (.cons (.lo J) .nil))) λQ k=>(bQ _ rfl J (pY (.bq (.cons (.fn (.cons (.lo J) (.cons .co .nil)) KB) (.cons .co .nil))) lk J (bm (.du (o9 (.lo J) (JN J) J) (.hZ (.cj (TN J (.lo J)) .co (.s7 (.bytes (i:=49) (ac J))))))
 (cZ (.hZ (λQ q=>o9 (.dy (.lo J) .co (.int (jt (a:=0) (b:=2) J J))) (JN J) J (λt=>Q (.bool t)) q)) (bm (.hZ (.of J (.lo J) J)) (pY (.fn (.cons (.lo J) (.cons (.lo J) (.cons (.TC (o9 (.lo J) .co J) .co) .nil))) D8) lk J
 (bm (.jr (o9 (.lo J) (.lo J) J) (.jr (o9 (.fn (.cons (.lo J) (.cons (.lo J) .nil)) KA) (JN J) J) .NF)) (cJ (.fn (.cons (.jC (.of J (.lo J) J) (.lo J)) (.cons (.at (.lo J) (.i (bH (bH g)) J J)) .nil)) Ky) k))))))))) k))
end
section
variable{c:Lc}{x:Lx}{b:ag D}{w h:H}{n:D}{X:Prop}
theorem K9{e:aF}(q:LH c x [] w h)(r:x.cA=49)(f:eP c.t (x.pos+1)=e)(N:e= -1\/e=32\/e=10)(p:x.pos<=8000):vo X (n+6) 42 [.ref c.X] c (x.go 1 e) w 284 (.int 1) h:=by
 have o:dg e=ai/\lt e=ai/\[69,101].contains e=ai/\(e==46)=ai:=by rcases N with rfl|rfl|rfl<;>exact aa J
 refine rQ o λ_ _ _ _=>?_;rename_i o P E O
 refine aM (oN (X:=X) (n:=n+3) q (j5 0xd40ac8c2b64b034 J r) (bO 0xd5865f280b98727240 J p) (by refine(?_ :0<9000);exact ac J)) λj G i=>?_
 rw[f,r] at i
 change LH c (x.go 1 e) [49] w j at i
 have d:=λ{y:Lx} {b h} (q:LH c y b w h)=>Et.of (t:=dg y.cA) J (Ev.fn (X:=X) (n:=n+5) (.cons (q.at (L:=[some (.ref c.X),none]) (a:=18) J J J) .nil) (yY (n:=n+4))) J
 have B:=d q
 rw[r] at B
 have v:=d i
 rw[show(x.go 1 e).cA=e from J,o] at v
 have g:=i.ii (.bq (([69,101]:ag aF).map .int))
 refine cv (sQ (X:=X) (n:=n+2) (is:=[69,101]) g lk (λz=>by rw[show(x.go 1 e).cA=e from J,E] at z;exact ft z) (by refine(?_ :x.pos+1<=_);exact bO 0xd6069b2a8240b98727240 J p) (by refine(?_ :1<=8000);exact ac J)) λM F=>?_
 have C:Ev (Cn X (n+5)) (.ca (.c (.fn 17)) [.at (.l 0) 18]) [some (.ref c.X),none] _ (.bool (lt e||dg e)) _:= .fn (.cons (g.at (a:=18) J J J) .nil) Mv
 rw[o,P] at C
 exact λQ k=>(bQ _ rfl J (Jo (.NE B) (λR H=>ia (.me (.lo J) (q.fn J J) .nil G (ac J)) H) (.jr v (.jr (o9 (i.at (a:=18) J J J) .co (aL some O)) .NF)) (bm (.me (.lo J) (i.fn J J) (Qn (is:=[69,101]) (.cons .co (.cons .co .nil))) (M E) (ac J) J) (Ei (.of J C J) (cZ (.fn (.cons (Hu J g) (.cons (g.at (a:=15) J J J) .nil)) (Oj g.dW)) (bm (.cj (.lo J) .co .none) ((gX (X:=X) (n:=n+3) (ss:=[]) (L:=[some (.ref c.X),some (.int 1)]) (k:=284) ((g.ii (.bq [.int 0,.bool ai])).ii (.bq [.int 1,.int 1])) .co (.lo J)) (rt Q) λm K F t=>k m K t)))))))
end
inductive Wk:ag D->aF->V->Prop
 |Jg {a:D} {r k v}:(∀z∈a::r,lt (z:D)=am)->r.length<=90->xh (.bytes (a::r)) fk->((dp (.bytes (a::r)) fk=ax/\k=285/\v= .bytes (a::r))\/(dp (.bytes (a::r)) fk=ae (.int k)/\v= .none))->Wk (a::r) k v
 |str:Wk [39,115,39] 286 (.bytes [115])
 |brk:Wk [91] 91 .none
 |io (d:D):d<=2->Wk (46::cE d 46) (if d=0 then 46 else if d=1 then 278 else 279) .none
 |dY:Wk [49] 284 (.int 1)
 |FV:Wk [45] 45 .none
 |eq:Wk [61] 61 .none
 |TJ:Wk [61,61] 280 .none
 |cA {a:D}:[34,39,91,46,45,61,60,62,126,10,13].contains (a:aF)=ai->dg a=ai->lt a=ai->bl a=ai->Wk [a] a .none
def ends(e:aF):Prop:=e= -1\/e=32\/e=10
theorem Au{a:D}(h:lt a=am):nl a=ai/\bl a=ai/\(a:aF)≠45/\[34,39].contains (a:aF)=ai/\(a:aF)≠91/\(a:aF)≠46/\dg a=ai:=by
 have l:a<123:=by
  unfold lt at h
  simp at h
  exact VV h
 exact(by decide+kernel:∀a<123,lt (a:D)=am->nl (a:D)=ai/\bl (a:D)=ai/\(a:aF)≠45/\[34,39].contains (a:aF)=ai/\(a:aF)≠91/\(a:aF)≠46/\dg (a:D)=ai) a l h
theorem Wk.first{w:ag D}{k:aF}{v:V}(q:Wk w k v):∃a r,w=a::r/\nl a=ai/\bl a=ai/\((a:aF)≠45\/r=[]):=by
 induction q with
 | @Jg a r _ _ e _ _ _=>have:=Au (e a (.head _));exact tV a r J this.1 this.2.1 (.inl this.2.2.1)
 |str=>exact tV _ _ rfl J J (.inl (aa J))
 |brk=>exact tV _ _ rfl J J (.inl (aa J))
 |io d _=>exact tV _ _ rfl J J (.inl (aa J))
 |dY=>exact tV _ _ rfl J J (.inl (aa J))
 |FV=>exact tV _ _ rfl J J (.inr J)
 |eq=>exact tV _ _ rfl J J (.inl (aa J))
 |TJ=>exact tV _ _ rfl J J (.inl (aa J))
 | @cA a b _ _ c=>exact tV a ([]) J (by unfold nl;simp at b⊢;exact VU b) c (.inr J)
section
variable{c:Lc}{x:Lx}{b:ag D}{j h:H}{n:D}{s:aF}{X:Prop}
theorem El{w:ag D}{k:aF}{v:V}{e:aF}(W:Wk w k v)(q:LH c x [] j h)(o:x.cA=eP c.t x.pos)(b:Sg c.t x.pos w e)(F:ends e)(p:x.pos<=8000):rx (Cn X (n+8)) c (x.go w.length e) j k v (xf.drop 2) [ae (.ref c.X),none] h:=by
 have Y:e≠61/\e≠91/\e≠46/\dg e=ai/\lt e=ai:=by rcases F with rfl|rfl|rfl<;>exact aa J
 refine A4 Y λu y A H U=>?_
 have i:=q.ii (.bq (([34,39]:ag aF).map .int))
 have m:∀{a r},w=a::r->x.cA=(a:D):=λ{a r} z=>by revert b;exact I z λb=>o.trans b.1
 have d:∀{a:D},Et (Cn X (n+8)) (.ca (.c (.fn 15)) [.l 1]) (rL c a) (h++[.bq (([34,39]:ag aF).map .int)]) (dg a) (h++[.bq (([34,39]:ag aF).map .int)]):=λ{a}=> .of J (.fn (.cons (.lo J) .nil) yY) J
 induction W with
 | @Jg a r _ _ B K Z L=>
  have f:=Au (B a (.head _))
  have C:Et (Cn X (n+8)) (.ca (.c (.fn 16)) [.l 1]) (rL c a) (h++[.bq (([34,39]:ag aF).map .int)]) (lt a) (h++[.bq (([34,39]:ag aF).map .int)]):= .of J (.fn (.cons (.lo J) .nil) FH) J
  rw[B a (.head _)] at C
  have E:=d (a:=a)
  rw[f.2.2.2.2.2.2] at E
  exact kN q (m J).symm (xK (bO 0xeacac9ac0 J) f.2.2.2.1 (BS f.2.2.2.2.1 f.2.2.2.2.2.1 λQ g=>bm E (bT C (vo.re (ss:=[]) (K8 (n:=n+5) i o b B (I U (I H J)) p (I bv (bO 0xd5c3a8240ba2340 J K)) ⟨Z,L⟩) (.lo J) (i.fn J J) .nil (ac J) _ g))))
 |str=>exact kN q (m J).symm λQ g=>bm (zy (aa J)) (bT (Jj (is:=[34,39]) (.cons .co (.cons .co .nil)) J) (vo.re (ss:=[]) (Ek (n:=n+5) i (m J) b.2 J p) (.lo J) (i.fn J J) (.cons (.lo J) .nil) (ac J) _ g))
 |brk=>exact kN q (m J).symm (xK (aa J) J λQ g=>bT (yW J) (vo.re (ss:=[]) (Cv (n:=n+4) i (m J) b.2 u y p) (.lo J) (i.fn J J) .nil (ac J) _ g))
 |io d dl=>
  exact I (show(46::cE d 46).length=d+1 by exact I bv (I mL J)) (kN q (m J).symm (xK (aa J) J λQ g=>bm (zy (aa J)) (bT (yW J) (vo.re (ss:=[]) (La (n:=n+3) i (m J) b.2 dl A H p) (.lo J) (i.fn J J) .nil (ac J) _ g))))
 |dY=>exact kN q (m J).symm (xK (aa J) J (BS (aa J) (aa J) λQ g=>bT d (vo.re (ss:=[]) (K9 (n:=n+2) i (m J) b.2 F p) (.lo J) (i.fn J J) .nil (ac J) _ g)))
 |FV=>
  have:=Ik (X:=X) (n:=n+6) i (bO 0xd6069b280b98727240 J p) (s:=45) J
  rw[show eP c.t (x.pos+1)=e from b.2] at this
  exact kN q (m J).symm (xK (aa J) J (BS (aa J) (aa J) (Jp (n:=n+7) J J this)))
 |eq=>
  have:=(MD (X:=X) (n:=n+5) i (bO 0xd6069b280b98727240 J p)).1 (I (b.2) u)
  rw[show eP c.t (x.pos+1)=e from b.2] at this
  exact kN q (m J).symm (xK (aa J) J (BS (aa J) (aa J) (Jp (n:=n+7) J J this)))
 |TJ=>
  have:=(MD (X:=X) (n:=n+5) i (bO 0xd6069b280b98727240 J p)).2 b.2.1
  rw[show eP c.t (x.pos+2)=e from b.2.2] at this
  exact kN q (m J).symm (xK (aa J) J (BS (aa J) (aa J) (Jp (n:=n+7) J J this)))
 | @cA a G N M h4=>
  have f:[34,39].contains (a:aF)=ai/\(a:aF)≠91/\(a:aF)≠46/\(a:aF)≠45/\[61,60,62,126].contains (a:aF)=ai:=by
   simp at G⊢;exact VT G
  refine A4 f λT S R P O=>?_
  have:=OI (X:=X) (n:=n+6) i (bO 0xd6069b280b98727240 J p) (s:=a) P O
  rw[show eP c.t (x.pos+1)=e from b.2] at this
  exact kN q (m J).symm (xK (bO 0xeacac9ac0 J) T (BS S R (Jp (n:=n+7) N M this)))
variable(g:j[c.X]? =ae (.inst 4 (jv c x)))(lm:j[c.LM]? =ae (.inst 0 y8))(kd:j[c.KD]? =ae (.dict fk))(ne:c.LM≠c.X/\c.KD≠c.X)(ok:c.t.length<=8000/\∀a∈c.t,a<256)(o:x.cA=eP c.t x.pos)(p:x.pos<=7000)
include g lm kd ne ok o p
theorem KC{w:ag D}{k:aF}{v:V}{e:aF}(W:Wk w k v)(d:x.cA=32\/x.cA=10)(b:Sg c.t (x.pos+1) w e)(G:ends e)(l:0<=x.line/\x.line<=100000):
  vo X (n+9) 36 [.ref c.X] c {x with jF:=(Y7 j),pos:=x.pos+1+w.length,cA:=e,line:=x.line+(if x.cA=10 then 1 else 0)} j k v j:=by
 refine aM (Am (X:=X) (n:=n+7) g lm kd ne ⟨az ok.1 (ac J),ok.2⟩ (o▸A9 ok.2 _)) λF R A=>cY W.first λa r s q=>?_;revert W b;refine I s λW b=>i7 q λu H h=>?_;have f:=b.1;exact aM (Kz (X:=X) (n:=n+5) A (by refine(?_ :x.pos<=9000);exact bO 0xd6069b280ba0763240 J p) l d (by refine(?_ :nl (eP c.t (x.pos+1))=ai);exact I f u)) λE P z=>aM (Da (X:=X) (n:=n+5) z (by refine(?_ :x.pos+1<=9000);exact bO 0xd6069b2a8240ba0763240 J p) (by refine(?_ :bl (eP c.t (x.pos+1))=ai);exact I f H) (by refine(?_ :nl (eP c.t (x.pos+1))=ai);exact I f u) (by
  refine(?_ :eP c.t (x.pos+1)≠45\/eP c.t (x.pos+1+1)≠45);rcases h with h|rfl
  ·left;exact I f h
  ·right;refine I (b.2) ?_;rcases G with rfl|rfl|rfl<;>exact aa J)) λC O K=>λQ k=>(bQ _ rfl rfl (ia (.me (.lo J) (.i g J rfl) .nil R (ac J)) (Jo (.me (.lo J) (A.fn J rfl) .nil P (ac J) J) (λT M=>M) (.me (.lo J) (z.fn J rfl) .nil O (ac J) J) (El (n:=n) W K J b G (by refine(?_ :x.pos+1<=8000);exact bO 0xd58727268240ba0763240 J p) _ λm N U t=>k m N t))))
theorem Ol(b:x.cA= -1):vo X (n+9) 36 [.ref c.X] c {x with jF:=(Y7 j)} j 287 .none j:=aM (Am (X:=X) (n:=n+7) g lm kd ne ⟨az ok.1 (ac J),ok.2⟩ (o▸A9 ok.2 _)) λh r e=>aM (Da (X:=X) (n:=n+5) e (by refine(?_ :x.pos<=9000);exact bO 0xd6069b280ba0763240 J p) (by refine(?_ :bl x.cA=ai);exact I b J) (by refine(?_ :nl x.cA=ai);exact I b J) (.inl (by refine(?_ :x.cA≠45);exact I b (aa J)))) λf q d=>λQ k=>(bQ _ rfl J (ia (.me (.lo J) (.i g J J) .nil r (ac J)) (Ei (.me (.lo J) (e.fn J J) .nil q (ac J) J) (cZ (d.at (a:=18) J J J) (bT (yW (s:=x.cA) b) (gX (n:=n+6) (ss:=[]) d .co .co _ λm l v t=>k m l t))))))
end
noncomputable def fO(w:ag D):aF×V:=match dp (.bytes w) fk with
 |some (.int k)=>(k,.none)
 |_=>if w.all (λa=>lt (a:D)) then(285,.bytes w) else if w=[39,115,39] then(286,.bytes [115]) else if w=[49] then(284,.int 1) else if w=[46,46] then(278,.none) else if w=[46,46,46] then(279,.none) else if w=[61,61] then(280,.none) else(((w.headD 0:D):aF),.none)
noncomputable abbrev iQ:=ag D×aD
noncomputable def iM(r:iQ):D:=if r.2 then 10 else 32
noncomputable def cm(a:ag iQ):ag D:=a.flatMap λr=>iM r::r.1
noncomputable def hG(a:ag iQ)(k:D):D:=(cm (a.take k)).length
noncomputable def oO(a:ag iQ)(k:D):aF:=1+(((a.take k).filter (·.2)).length:D)
noncomputable def tk(a:ag iQ)(k:D):aF×V:=match a[k]? with
 |some r=>fO r.1
 |none=>(287,.none)
noncomputable def bh(a:ag iQ)(k:D):aD:=match a[k]? with
 |some r=>r.2
 |none=>ai
noncomputable def xc(k:aF):aD:=(decide (32<=k)&&decide (k<127))||(decide (257<=k)&&decide (k<=287))
structure oW(aw:ag iQ):Prop where
 Mn:∀r∈aw,Wk r.1 (fO r.1).1 (fO r.1).2
 BM:∀r∈aw,∀a∈r.1,a<256
 size:(cm aw).length<=7000
 o0:(Y7 aw)<=3000
 jq:∀r∈aw,xc (fO r.1).1=am
theorem uz{a b:ag D}{i:D}:eP (a++b) (a.length+i)=eP b i:=by
 unfold eP;refine I (cF (cH _ _)) ?_;exact I (cV ..) J
theorem OE:∀{w:ag D} {a rest:ag D} {p:D},p=a.length->Sg (a++(w++rest)) p w (eP rest 0):=by
 intro w;induction w with
 |nil=>
  intro a rest p e;refine(?_ :eP _ p=_);exact I e (uz (i:=0))
 |cons x w b=>
  intro a rest p e;refine⟨I e (uz (i:=0)),?_⟩;have:=b (a:=a++[x]) (rest:=rest) (p:=p+1) (I au (I e J));rwa [a7] at this
theorem EV(aw:ag iQ):ends (eP (cm aw) 0):=by
 induction aw with
 |nil=>exact .inl J
 |cons r t=>
  refine(?_ :ends (((iM r:D):aF)));unfold iM;cases r.2
  ·exact .inr (.inl J)
  ·exact .inr (.inr J)
theorem pD(a b:ag iQ):cm (a++b)=cm a++cm b:=List.flatMap_append
theorem sP{a:ag iQ}{k:D}{r:iQ}(e:a[k]? =ae r):a.take (k+1)=a.take k++[r]:=I zX (I e J)
theorem Il{a:ag iQ}{k:D}{r:iQ}(e:a[k]? =ae r):hG a (k+1)=hG a k+1+r.1.length:=by
 unfold hG;refine I (sP e) (I (pD ..) (I au (?_ :_+(iM r::(r.1++[])).length=_)));refine I (bz ..) (I bv (I (Nat.add_assoc ..) ?_));rw[tG 1]
theorem Do{a:ag iQ}{k:D}{r:iQ}(e:a[k]? =ae r):oO a (k+1)=oO a k+(if r.2 then 1 else 0):=by
 unfold oO;refine I (sP e) (I (List.filter_append ..) (I au ?_));cases b:r.2 with
 |true=>refine I (List.filter_cons_of_pos b) (dG J (?_ :1+((_+1:D):aF)=_));exact bO 0xde8ac9a2b02b268ae8240ac9 J
 |false=>exact I (show Qf (λx:iQ=>x.2) [r]=[] from List.filter_cons_of_neg (I b (aa J))) J
theorem OP(a:ag iQ)(k:D):hG a k<=(cm a).length:=by
 conv=>rhs;rw[<-cI k a,pD,au]
 exact cH _ _
theorem MR(a:ag iQ)(k:D):1<=oO a k/\oO a k<=1+((Y7 a):D):=by
 exact⟨bO 0xd68ac0ac9ac9 J,dw 0xd68ac1ac9a2b02b26e040 J (az (List.length_filter_le (λx:iQ=>x.2) (a.take k)) (I bE (d9 _ _)))⟩
theorem Ko{b:ag iQ}{k:D}{r:iQ}(e:b[k]? =ae r):eP (cm b) (hG b k)=iM r/\Sg (cm b) (hG b k+1) r.1 (eP (cm b) (hG b (k+1)))/\ends (eP (cm b) (hG b (k+1))):=by
 have c:b=b.take k++(r::b.drop (k+1)):=by
  conv=>lhs;rw[<-cI (k+1) b,sP e,a7]
  rfl
 have f:cm (r::b.drop (k+1))=iM r::(r.1++cm (b.drop (k+1))):=rfl
 have d:eP (cm b) (hG b (k+1))=eP (cm (b.drop (k+1))) 0:=by
  conv=>lhs;arg 1;rw[(((cI _ _).symm):b=b.take (k+1)++b.drop (k+1))]
  refine I (pD ..) ?_
  exact uz (i:=0)
 refine bX ?_ ?_ (d▸EV _)
 ·conv=>lhs;arg 1;rw[c]
  exact I (pD ..) (I f (uz (i:=0)))
 ·refine I d ?_
  conv=>arg 1;rw[c]
  refine I (pD ..) (I f ?_)
  have:=OE (a:=cm (b.take k)++[iM r]) (w:=r.1) (rest:=cm (b.drop (k+1))) (p:=hG b k+1) (I au J)
  rwa [a7] at this
theorem xJ{aw:ag iQ}(w:oW aw){c:Lc}(ct:c.t=cm aw){h:H}{k:D}{x:Lx}{n:D}{X:Prop}(g:h[c.X]? =ae (.inst 4 (jv c x)))(lm:h[c.LM]? =ae (.inst 0 y8))(kd:h[c.KD]? =ae (.dict fk))(hp:x.pos=hG aw k)(hs:x.cA=eP (cm aw) x.pos)(hl:x.line=oO aw k):
  vo X (n+9) 36 [.ref c.X] c {x with jF:=h.length,pos:=hG aw (k+1),cA:=eP (cm aw) (hG aw (k+1)),line:=oO aw (k+1)} h (tk aw k).1 (tk aw k).2 h:=by
 have by256:∀a∈c.t,a<256:=λa m=>by
  rw[ct] at m
  refine aM (List.mem_flatMap.mp m) λr hr ha=>?_
  rcases aZ.mp ha with rfl|ha
  ·unfold iM;split<;>exact ac J
  ·exact w.BM r hr a ha
 have ne:c.LM≠c.X:=λe=>by rw[e,g] at lm;cases lm
 have ne':c.KD≠c.X:=λe=>by rw[e,g] at kd;cases kd
 have pl:=az (OP aw k) w.size
 have ok:c.t.length<=8000/\∀a∈c.t,a<256:=⟨I ct (az w.size (ac J)),by256⟩
 have hs':=ct▸hs
 unfold tk
 cases hr:aw[k]? with
 |some r=>
  refine i7 (Ko hr) λa1 a2 a3=>?_
  have xs:x.cA=iM r:=by refine I hs ?_;refine I hp ?_;exact a1
  have ll:=MR aw k
  have:=KC (X:=X) (n:=n) g lm kd ⟨ne,ne'⟩ ok hs' (I hp pl) (w.Mn r (bI hr)) (by refine I xs ?_;unfold iM;cases r.2;exact .inl J;exact .inr J) (I hp (I ct a2)) a3 (I hl (⟨j5 0xd40ac8b80ac9 J ll.1,mN 0xd6b6227a0241ba08d302ea2b02b241 J ll.2 w.o0⟩))
  rw[hp,hl,<-Il hr,xs] at this
  refine I (Do hr) ?_
  have e:(if((iM r:D):aF)=10 then(1:aF) else 0)=if r.2 then 1 else 0:=by
   unfold iM
   cases r.2<;>rfl
  rw[e] at this
  exact this
 |none=>
  have lk:=Je.mp hr
  have tk:=bK lk
  have tk1:=bK (zV lk)
  exact I (show hG aw (k+1)=x.pos by refine I hp ?_;unfold hG;exact I tk1 (I tk J)) (I (show oO aw (k+1)=x.line by refine I hl ?_;unfold oO;exact I tk1 (I tk J)) (I (aQ hs) (Ol (X:=X) (n:=n) g lm kd ⟨ne,ne'⟩ ok hs' (I hp pl) (by
   refine I hs (I hp ?_)
   unfold eP hG
   refine I tk (I (dF (aE _)) ?_);rfl))))
noncomputable def eO:ag (ag D):=[[97],[98],[99],[102],[103],[104],[105],[106],[49],[110,105,108],[43],[46,46],[61,61],[110,111,116],[35],[45],[39,115,39],[46,46,46],[40],[41],[44],[61],[59],[58],[46],[91],[93],[123],[125],[101,110,100],[98,114,101,97,107],[114,101,116,117,114,110],[100,111],[102,117,110,99,116,105,111,110],[119,104,105,108,101],[114,101,112,101,97,116],[108,111,99,97,108],[117,110,116,105,108],[105,102],[116,104,101,110],[101,108,115,101,105,102],[101,108,115,101],[102,111,114],[105,110]]
noncomputable def mw(w:ag D):ag (ag D):=
 if[[97],[98],[99],[102],[103],[104],[105],[106]].any (w==·) then[[110,97,109,101]] else
 if[[49],[110,105,108]].any (w==·) then[[112,108,97,105,110]] else
 if[[43],[46,46],[61,61]].any (w==·) then[[116,119,111]] else
 if[[110,111,116],[35]].any (w==·) then[[111,110,101]] else
 if w==[45] then[[116,119,111],[111,110,101]] else if w==[39,115,39] then[[116,101,120,116]] else[w]
noncomputable def Us:ag (ag D):=[[98,108,111,99,107],[115,116,97,116],[115,101,109,105],[108,97,115,116],[114,111,119],[108,111,111,112],[101,108,105,102],[101,108,115,101],[109,111,114,101],[110,97,109,101,115],[110,97,109,101],[100,111,116],[99,111,108,111,110],[105,110,105,116],[118,97,114,115],[118,97,114],[103,114,111,117,112],[99,97,108,108],[116,97,105,108],[104,101,97,100],[102,105,101,108,100],[97,114,103,115],[103,105,118,101,110],[101,120,112,115],[101,120,112],[116,119,111],[117,110,97,114,121],[115,105,109,112,108,101],[98,101,104,105,110,100],[116,97,98,108,101],[105,116,101,109,115],[111,116,104,101,114],[115,101,112],[105,116,101,109],[98,111,100,121],[112,97,114,97,109,115],[100,111,116,115]]
noncomputable def i8(r:Rl):ag D:=Us.getD r.n.1 []
noncomputable def oX:Md->ag D
 | .dY=>[]| .eG=>[63]| .eM=>[42]| .kZ=>[43]
noncomputable def uP(k:aF):ag D:=
 if k=285 then[110,97,109,101] else if k=284 then[112,108,97,105,110] else if k=43 then[116,119,111] else if k=45 then[111,110,101] else if k=286 then[116,101,120,116] else
 if k<257 then[k.toNat] else if k=262 then[101,110,100] else if k=273 then[114,101,116,117,114,110] else if k=259 then[100,111] else if k=265 then[102,117,110,99,116,105,111,110] else if k=277 then[119,104,105,108,101] else if k=272 then[114,101,112,101,97,116] else if k=268 then[108,111,99,97,108] else if k=276 then[117,110,116,105,108] else if k=266 then[105,102] else if k=274 then[116,104,101,110] else if k=261 then[101,108,115,101,105,102] else if k=260 then[101,108,115,101] else if k=264 then[102,111,114] else[105,110]
noncomputable def qI:Tm->ag D
 | .any a=>uP (a.headD 0)
 | .io=>[46,46,46]
 | .brk=>[98,114,101,97,107]
 | .oZ=>[110,101,97,114]
 | .jZ=>[33]
noncomputable def OO:Pp->ag D
 | .t x=>qI x
 | .r x m=>64::(i8 x++oX m)
noncomputable def UI:V->av D
 | .aV a=>ae a
 |_=>ax
noncomputable def BQ(v:V):ag V:=match UI v with
 |some a=>(match(kL[a]? :av O) with|some (.list xs)=>xs|_=>[])
 |none=>[]
noncomputable def xI:ag (V×V):=match(kL[21]? :av O) with|some (.dict kvs)=>kvs|_=>[]
noncomputable def TA(v:av V):D:=match v with
 |some (.aV a)=>a
 |_=>0
noncomputable abbrev QN(r:Rl):av V:=dp (.str (i8 r)) xI
noncomputable def Qr(r:Rl):aD:=decide (QN r=ae (.aV (TA (QN r)))/\(BQ (.aV (TA (QN r)))).map BQ=(lJ r).map (·.map λp=> .str (OO p)))
theorem Kq(r:Rl):Qr r=am:=oi (p:=Qr) J r
structure Sc where
 r:D
 sn:D
 bo:D
 line:aF
 dB:D
 va:aD
 n:D
structure St where
 i:D
 la:aD
 eY:aF
 d:D
 made:D
 hd:Sc
 cS:ag Sc
structure Pc where
 aw:ag iQ
 P:D
 X:D
 LM:D
 KD:D
 B:D
noncomputable def St.rd(s:St):D:=if s.la then s.i+2 else s.i+1
noncomputable def Pc.K(c:Pc)(i:D):aF:=(tk c.aw i).1
noncomputable def Pc.ln(c:Pc)(s:St):aF:=oO c.aw s.rd
noncomputable def Pc.lc(c:Pc):Lc:=⟨cm c.aw,c.X,c.LM,c.KD⟩
noncomputable def wg:ag Sc->V
 |[]=> .none
 |t::_=> .ref t.r
noncomputable def Eh(o:V)(t:Sc)(a:aD):ag (D×V):=[(47,o),(19,.int t.line),(48,.ref t.sn),(49,.int t.dB),(50,.ref t.bo),(51,.bool t.va),(52,.bool a)]
noncomputable def xa(c:Pc)(a:V)(d made:D):ag (D×V):=[(15,.ref c.LM),(53,.ref c.X),(54,a),(55,.int d),(56,.int made)]
def qm(h:H)(made:D)(b:ag V):Prop:=∀v∈b,∃(n:D) (a:ag D) (k:aF),v= .ref n/\h[n]? =ae (.bq [.bytes a,.int k])/\k<made/\(0<=k\/a.head?=ae 40)
def uo(h:H)(made b:D):Prop:=∃a:ag D,h[b]? =ae (.list (a.map λ(k:D)=>V.int k))/\a.Nodup/\∀k∈a,k<made
noncomputable def hi(B:D):ag Sc->D
 |[]=>B
 |t::_=>max t.sn t.bo+1
structure HI(h:H)(made:D)(o:V)(t:Sc):Prop where
 at_:∃na,h[t.r]? =ae (.inst 6 (Eh o t na))
 seen:∃ys,h[t.sn]? =ae (.list ys)/\Y7 ys=t.n/\qm h made ys
 uE:t.n<=200
 jr:uo h made t.bo
 lt:t.r<t.sn/\t.r<t.bo/\t.sn≠t.bo
noncomputable def Tw(h:H)(made B:D):ag Sc->Prop
 |[]=>JY
 |t::r=>HI h made (wg r) t/\hi B r<=t.r/\Tw h made B r
def wT(c:Pc)(h:H)(k:D)(v:V):Prop:=∃n,v= .ref n/\h[n]? =ae (.inst 3 [(12,.int (tk c.aw k).1),(10,(tk c.aw k).2)])
structure yu(c:Pc)(s:St)(h:H)(x:Lx):Prop where
 gO:h[c.X]? =ae (.inst 4 (jv c.lc x))
 pos:x.pos=hG c.aw s.rd
 cA:x.cA=eP (cm c.aw) x.pos
 line:x.line=c.ln s
 eY:x.eY=s.eY
 cur:wT c h s.i x.cur
 jH:if s.la then wT c h (s.i+1) x.jH else x.jH= .none
 jF:∃b,h[x.jF]? =ae (.f7 b)/\b.length<=10000
structure Pa(c:Pc)(s:St)(h:H):Prop where
 ok:oW c.aw
 mH:h[c.P]? =ae (.inst 9 (xa c (.ref s.hd.r) s.d s.made))
 lm:h[c.LM]? =ae (.inst 0 y8)
 kd:h[c.KD]? =ae (.dict fk)
 gO:∃x,yu c s h x
 tw:Tw h s.made c.B (s.hd::s.cS)
 made:s.made<=59
 lt:c.P<c.B/\c.X<c.B/\c.P≠c.X
 pE:s.i<=c.aw.length
 zA:s.cS.length<=100
def Mu(c:Pc)(s:St)(k:D):Prop:=k=c.P\/k=c.X\/∃t∈s.hd::s.cS,k=t.r\/k=t.sn\/k=t.bo
structure Nx(c:Pc)(s:St)(h:H)(A:St)(h':H):Prop where
 kp:∀(k:D) o,h[k]? =ae o->¬Mu c s k->h'[k]? =ae o
 mu:∀k,k<h.length->Mu c A k->Mu c s k
 sz:h.length<=(Y7 h')
section
variable{c:Pc}{s A F:St}{h h' L:H}{made j B:D}
theorem j4{n:D}{o:O}(g:h[n]? =ae o):n<h.length:=(aY.mp g).1
theorem Nx.refl:Nx c s h s h:=⟨λa a g a=>g,λa a m=>m,aE _⟩
theorem Nx.trans(a:Nx c s h A h')(b:Nx c A h' F L):Nx c s h F L:=⟨λk o g m=>b.kp k o (a.kp k o g m) λz=>m (a.mu k (j4 g) z),λk l m=>a.mu k l (b.mu k (cQ l a.sz) m),az a.sz b.sz⟩
section
variable(G:∀(n:D) xs,h[n]? =ae (.bq xs)->h'[n]? =ae (.bq xs))(le:made<=j)
include G le
theorem qm.keep{a:ag V}(q:qm h made a):qm h' j a:=λv m=>DU (q v m) λn b i e g l z=>uR n b i e (G n _ g) (Int.lt_of_lt_of_le l (lU.mpr le)) z
theorem HI.keep{o:V}{t:Sc}(d:∀o,h[t.r]? =ae o->h'[t.r]? =ae o)(c:∀o,h[t.sn]? =ae o->h'[t.sn]? =ae o)(e:uo h made t.bo->uo h' j t.bo)(q:HI h made o t):HI h' j o t:=cs q.at_ λb g=>kh q.seen λa i l k=>⟨⟨b,d _ g⟩,(bQ a (c _ i) l (k.keep G le)),q.uE,e q.jr,q.lt⟩
end
theorem uo.keep(le:made<=j){a:D}(k:∀o,h[a]? =ae o->h'[a]? =ae o)(q:uo h made a):uo h' j a:=by
 refine kh q λc g b l=>?_;exact bQ c (k _ g) b (λi m=>cQ (l i m) le)
theorem Tw.keep(le:made<=j)(G:∀(n:D) b,h[n]? =ae (.bq b)->h'[n]? =ae (.bq b)):∀{a:ag Sc},(∀t∈a,∀k,k=t.r\/k=t.sn\/k=t.bo->∀o,h[k]? =ae o->h'[k]? =ae o)->Tw h made B a->Tw h' j B a:=by
 intro a;induction a with
 |nil=>exact λc c=>trivial
 |cons t r d=>
  intro k q;exact bX (q.1.keep G le (k t (.head _) _ (.inl J)) (k t (.head _) _ (.inr (.inl J))) (·.keep le (k t (.head _) _ (.inr (.inr J))))) q.2.1 (d (λt m=>k t (.tail _ m)) q.2.2)
theorem Tw.lo:∀{d:ag Sc},Tw h made B d->B<=hi B d/\∀t∈d,∀k,k=t.r\/k=t.sn\/k=t.bo->B<=k/\k<hi B d/\((∃n o,h[k]? =ae (.inst 6 (Eh o t n)))\/∃l,h[k]? =ae (.list l)):=by
 intro c;induction c with
 |nil=>
  intro e;exact⟨aE _,λe m=>nomatch m⟩
 |cons t r P=>
  intro i;refine i7 i λa b z=>cv (P z) λv N=>i7 a.lt λq O Q=>?_;have s:t.sn<hi B (t::r):=zU (Nat.le_max_left _ _);have K:=cR b (jU q s);have p:=az v b;refine⟨fh (cR v K),λu m k H=>?_⟩;rcases aZ.mp m with rfl|m
  ·rcases H with rfl|rfl|rfl
   ·exact cs a.at_ λn g=>bX p (jU q s) (.inl (DT n _ g))
   ·exact aM a.seen λM g e=>bX (fh (cR p q)) s (.inr ⟨_,g⟩)
   ·exact aM a.jr λM g e=>bX (fh (cR p O)) (zU (Nat.le_max_right _ _)) (.inr ⟨_,g⟩)
  ·exact i7 (N u m k H) λx y w=>bX x (jU y K) w
theorem Pa.mu(q:Pa c s h){k:D}(m:Mu c s k):(∃a e,(a=9\/a=4\/a=6)/\h[k]? =ae (.inst a e))\/∃l,h[k]? =ae (.list l):=by
 refine cs q.gO λx b=>?_;rcases m with rfl|rfl|⟨t,m,d⟩
 ·exact .inl (dO _ _ (.inl J) q.mH)
 ·exact .inl (dO _ _ (.inr (.inl J)) b.gO)
 ·rcases((q.tw.lo).2 t m k d).2.2 with⟨_,_,g⟩|g
  ·exact .inl (dO _ _ (.inr (.inr J)) g)
  ·exact .inr g
theorem Pa.Wq(q:Pa c s h){k:D}(m:Mu c s k):k<h.length:=by
 rcases q.mu m with⟨_,_,_,g⟩|⟨_,g⟩<;>exact j4 g
theorem Pa.no(q:Pa c s h){k:D}{o:O}(g:h[k]? =ae o)(z:∀a d,(a=9\/a=4\/a=6)->o≠.inst a d)(i:∀l,o≠.list l):¬Mu c s k:=λm=>by
 rcases q.mu m with⟨a,d,e,b⟩|⟨l,b⟩<;>rw[g] at b<;>cases b
 ·exact z _ _ e J
 ·exact i _ rfl
theorem wT.keep{k:D}{v:V}(d:∀(n:D) b,h[n]? =ae (.inst 3 b)->h'[n]? =ae (.inst 3 b)):wT c h k v->wT c h' k v:=λa=>aM a λn e g=>(aW n e (d _ _ g))
theorem yu.keep{x:Lx}(a:yu c s h x)(r:∀o,h[c.X]? =ae o->h'[c.X]? =ae o)(e:∀(n:D) m,h[n]? =ae (.inst 3 m)->h'[n]? =ae (.inst 3 m))(t:∀(n:D) b,h[n]? =ae (.f7 b)->h'[n]? =ae (.f7 b))(d:A.i=s.i)(q:A.la=s.la)(u:A.eY=s.eY):yu c A h' x:=by
 have p:A.rd=s.rd:=by unfold St.rd;refine I d ?_;refine I q ?_;rfl
 refine⟨r _ a.gO,I p a.pos,a.cA,I (show c.ln A=c.ln s by unfold Pc.ln;exact I p J) a.line,I u a.eY,I d (a.cur.keep e),?_,?_⟩
 ·have:=a.jH
  refine I q (I d ?_)
  cases k:s.la with
  |true=>rw[k] at this;exact wT.keep e this
  |false=>rw[k] at this;exact this
 ·exact aM a.jF λb g l=>aW b (t _ _ g) l
theorem Pa.keep(q:Pa c s h)(k:∀(n:D) o,h[n]? =ae o->(∀l,o= .list l->Mu c s n)->h'[n]? =ae o):Pa c s h':=by
 have b:∀{n:D} {o:O},(∀l,o≠.list l)->h[n]? =ae o->h'[n]? =ae o:=λz g=>k _ _ g λl e=>cq e (z l);exact cs q.gO λx d=>⟨q.ok,b (λa z=>nomatch z) q.mH,b (λa z=>nomatch z) q.lm,b (λa z=>nomatch z) q.kd,⟨x,d.keep (λo g=>k _ _ g λa a=> .inr (.inl J)) (λa a=>b λa z=>nomatch z) (λa a=>b λa z=>nomatch z) J J J⟩,
  q.tw.keep (aE _) (λa a=>b λa z=>nomatch z) λt m n i o g=>k n o g λa a=> .inr (.inr (aW t m i)),q.made,q.lt,q.pE,q.zA⟩
end
structure Pz(c:Pc)(E:St)(C:H)(f:ag (D×O))(s:St)(h:H):Prop where
 ps:Pa c s h
 nx:Nx c E C s h
 pv:∀p∈f,h[p.1]? =ae p.2/\¬Mu c s p.1
section
variable{c:Pc}{E s A:St}{C h h':H}{f:ag (D×O)}
theorem Pa.pz(q:Pa c s h):Pz c s h [] s h:=⟨q,.refl,λa m=>nomatch m⟩
theorem Pz.step(q:Pz c E C f s h)(p:Pa c A h')(n:Nx c s h A h'):Pz c E C f A h':=⟨p,q.nx.trans n,λa m=>cv (q.pv a m) λx y=>⟨n.kp _ _ x y,λz=>y (n.mu _ (j4 x) z)⟩⟩
theorem Pz.push(q:Pz c E C f s h)(o:O):Pz c E C f s (h++[o]):=q.step (q.ps.keep λa a g a=>bH g) ⟨λa a g a=>bH g,λa a m=>m,I au (cH _ _)⟩
theorem Pz.new(q:Pz c E C f s h)(o:O):Pz c E C ((h.length,o)::f) s (h++[o]):=⟨(q.push o).ps,(q.push o).nx,λp m=>by
 rcases aZ.mp m with rfl|m
 ·exact⟨lk,λz=>kF _ (q.ps.Wq z)⟩
 ·exact(q.push o).pv p m⟩
theorem Pz.zE(q:Pz c E C f s h){J':ag (D×O)}(m:∀p∈J',p∈f):Pz c E C J' s h:=⟨q.ps,q.nx,λp x=>q.pv p (m p x)⟩
theorem Pz.wZ{a:D}{d ys:ag V}(q:Pz c E C ((a,.list d)::f) s h)(l:(Y7 C)<=a)(r:∀p∈f,a≠p.1):Pz c E C ((a,.list ys)::f) s (h.set a (.list ys)):=by
 refine cv (q.pv _ (.head _)) λg i=>⟨q.ps.keep λn o b z=>?_,⟨λk o b m=>cB (q.nx.kp k o b m) (fM (cQ (j4 b) l)),q.nx.mu,I bC q.nx.sz⟩,λp m=>?_⟩
 ·refine cB b λe=>?_;revert b z;refine sb e λb z=>?_;rw[show h[a]? =ae (.list d) from g] at b;cases b;exact i (z d J)
 ·rcases aZ.mp m with rfl|m
  ·exact⟨fF g,i⟩
  ·exact⟨cB (q.pv p (.tail _ m)).1 (r p m),(q.pv p (.tail _ m)).2⟩
theorem Pz.get{p:D×O}(q:Pz c E C f s h)(m:p∈f):h[p.1]? =ae p.2:=(q.pv p m).1
end
noncomputable def Pc.next(c:Pc)(s:St):St:={s with i:=s.i+1,la:=ai,eY:=c.ln s}
section
variable{c:Pc}{s s':St}{h j:H}{n:D}{X:Prop}{Q:P1}
theorem Pa.FZ(q:Pa c s h)(k:∀(n:D) o,n≠c.X->h[n]? =ae o->j[n]? =ae o)(v:h.length<=Y7 j)(f:∃x,yu c s' j x)(e:s'={s' with d:=s.d,made:=s.made,hd:=s.hd,cS:=s.cS})(A:s'.i<=c.aw.length):Pa c s' j/\Nx c s h s' j:=by
 refine cs q.gO λx w=>?_;have b:∀{n:D} {o:O},(∀C,o≠.inst 4 C)->h[n]? =ae o->j[n]? =ae o:=λ{n o} z g=>k n o (λe=>by revert g;refine I e λg=>?_;rw[w.gO] at g;revert z;exact sb (si g) λz=>z _ rfl) g;exact I e (⟨⟨q.ok,b (λa z=>nomatch z) q.mH,b (λa z=>nomatch z) q.lm,b (λa z=>nomatch z) q.kd,e▸f,q.tw.keep (aE _) (λa a=>b λa z=>nomatch z) λt m n l o g=>k n o (((λt m k l e=>by have:=((q.tw.lo).2 t m k l).1;have:=q.lt;exact gC 0xeef081b800b0040 J e ‹c.B<=k› this.2.1):∀t∈s.hd::s.cS,∀k,k=t.r\/k=t.sn\/k=t.bo->k≠c.X) t m n l) g,q.made,q.lt,A,q.zA⟩,
  ⟨λy o g m=>k y o (λe=>m (.inr (.inl e))) g,λa a m=>m,v⟩⟩)
theorem FX{x:Lx}(a:yu c s h x)(nl:s.la=ai):x.line=oO c.aw (s.i+1)/\x.pos=hG c.aw (s.i+1)/\x.jH= .none:=by
 have d:=a.line;have b:=a.pos;have e:=a.jH;unfold Pc.ln St.rd at d;unfold St.rd at b;rw[nl] at d b e;exact bX d b e
theorem Lz{C:Cy}{L:bS}{e:E}{v:V}{t:aD}(q:Ev C e L h v h)(z:decide (v= .none)=t):Et C (.cj .Is e (.c .none)) L h t h:=z▸.cj q .co .none
theorem my{C:Cy}{L:bS}{e:E}{v:V}{t:aD}(q:Ev C e L h v h)(z:(!decide (v= .none))=t):Et C (.cj .IsNot e (.c .none)) L h t h:=z▸.cj q .co .some
theorem vg{x x':Lx}{a:D}{v:V}{h:H}(g:h[c.X]? =ae (.inst 4 (jv c.lc x)))(f:P.fld 4 a=am)(e:setField a v (jv c.lc x)=jv c.lc x'):qh P.fld h (.ref c.X) a v (h.set c.X (.inst 4 (jv c.lc x'))):=(tU c.X 4 _ rfl g f (by refine(?_ :12<=900);exact ac J) (I e J))
theorem G8(q:Pa c s h){x y:Lx}(t:yu c s h x)(nl:s.la=ai)(u:y={x with eY:=y.eY}){a:H}(g:a[c.X]? =ae (.inst 4 (jv c.lc y)))(k:∀(n:D) o,n≠c.X->h[n]? =ae o->a[n]? =ae o)(Q:P1)
  (z:∀m d b,d[m]? =ae (.inst 3 [(12,.int (tk c.aw (s.i+1)).1),(10,(tk c.aw (s.i+1)).2)])->m≠c.X->LH c.lc {y with jF:=(Y7 a),pos:=hG c.aw (s.i+2),cA:=eP (cm c.aw) (hG c.aw (s.i+2)),line:=oO c.aw (s.i+2)} b a d->Q (.ref m) d):P.call am X (n+9) (.fn 36) [.ref c.X] Q a:=by
 refine i7 (FX t nl) λG F N=>?_;have w:∀{m:D} {o:O},(∀L,o≠.inst 4 L)->h[m]? =ae o->a[m]? =ae o:=λ{m o} z f=>k m o (λe=>by revert f;refine I e λf=>?_;rw[t.gO] at f;revert z;exact sb (si f) λz=>z _ rfl) f;exact xJ (n:=n) (k:=s.i+1) q.ok (c:=c.lc) J g (w (by intro _ z;cases z) q.lm) (w (by intro _ z;cases z) q.kd) (I u F) (I u t.cA) (I u G) Q λm d p=>i7 p λK l r=>cs r λb E=>z m d b K (λe=>kF _ (cQ (e▸j4 g) l)) E
theorem OU(q:Pa c s h)(lt:s.i<c.aw.length)(k:∀v j,Pa c (c.next s) j->Nx c s h (c.next s) j->Q v j):P.call am X (n+10) (.fn 25) [.ref c.X] Q h:=by
 refine cs q.gO λx lx=>?_
 have g1:(h.set c.X (.inst 4 (jv c.lc {x with eY:=x.line})))[c.X]? =ae (.inst 4 (jv c.lc {x with eY:=x.line})):=fF lx.gO
 have k1:∀(n:D) o,n≠c.X->h[n]? =ae o->(h.set c.X (.inst 4 (jv c.lc {x with eY:=x.line})))[n]? =ae o:=λn o ne g=>cB g ne.symm
 have sz1:h.length<=(h.set c.X (.inst 4 (jv c.lc {x with eY:=x.line}))).length:=by refine I bC ?_;exact aE _
 refine bQ _ rfl J (cL (.at (.lo J) (.i lx.gO J J)) (.lo J) (vg (x':={x with eY:=x.line}) lx.gO J J) ?_)
 have t:=λ(b:aD)=>my (t:=b) (C:=Cn X (n+9)) (L:=[ae (.ref c.X)]) (Ev.at (e:= .l 0) (a:=23) (v:=x.jH) (.lo J) (.i g1 J J))
 have line:=lx.line
 cases nl:s.la with
 |false=>
  refine i7 (FX lx nl) λl1 l2 l3=>bm (t _ (I l3 J)) (s9 (.lo J) (.i g1 J J) .nil (G8 (n:=n) q lx nl J g1 k1 _ λm h₂ b g2 mX lh=>?_) (ac J))
  generalize h.set c.X (.inst 4 (jv c.lc {x with eY:=x.line}))=h₁ at*
  refine Ev.lo (i:=0) J _ (aW _ (vg (x':={x with eY:=x.line,jF:=(Y7 h₁),pos:=hG c.aw (s.i+2),cA:=eP (cm c.aw) (hG c.aw (s.i+2)),line:=oO c.aw (s.i+2),cur:= .ref m}) lh.gO J J) (cJ (.at (.lo J) (.i (fF lh.gO) J J)) ?_))
  have:=q.FZ (s':=c.next s) (λ(n:D) o (ne:n≠c.X) (g:h[n]? =ae o)=>cB (z:= .inst 4 (jv c.lc {x with eY:=x.line,jF:=(Y7 h₁),pos:=hG c.aw (s.i+2),cA:=eP (cm c.aw) (hG c.aw (s.i+2)),line:=oO c.aw (s.i+2),cur:= .ref m})) (lh.fr n o (k1 n o ne g) ne) ne.symm) (I bC (az sz1 lh.sz)) ⟨_,fF lh.gO,rfl,rfl,rfl,line,(aW m J (cB g2 mX.symm)),l3,(aW b (cB lh.jF (cr (j4 g1))) lh.len)⟩ J lt
  exact k _ _ this.1 this.2
 |true=>
  have ah:=lx.jH
  rw[nl] at ah
  refine aM ah λm ea ga'=>?_
  have hp:=lx.pos
  have hl:=lx.line
  unfold Pc.ln at hl
  unfold St.rd at hp hl
  rw[nl] at hp hl
  generalize h.set c.X (.inst 4 (jv c.lc {x with eY:=x.line}))=h₁ at*
  have g2:(h₁.set c.X (.inst 4 (jv c.lc {x with eY:=x.line,cur:= .ref m})))[c.X]? =ae (.inst 4 (jv c.lc {x with eY:=x.line,cur:= .ref m})):=fF g1
  refine bT (t _ (I ea J)) (cL (v:= .ref m) (.at (.lo J) (.i g1 J ?_)) (.lo J) (vg (x':={x with eY:=x.line,cur:= .ref m}) g1 J J) (cL .co (.lo J) (vg (x':={x with eY:=x.line,cur:= .ref m,jH:= .none}) g2 J J) (cJ (.at (.lo J) (.i (fF g2) J J)) ?_)))
  ·refine(?_ :ae x.jH=_);exact I ea J
  ·have kk:=λ(n:D) o (ne:n≠c.X) (g:h[n]? =ae o)=>cB (z:= .inst 4 (jv c.lc {x with eY:=x.line,cur:= .ref m,jH:= .none})) (cB (z:= .inst 4 (jv c.lc {x with eY:=x.line,cur:= .ref m})) (k1 n o ne g) ne.symm) ne.symm
   refine aM lx.jF λb gb lb=>?_
   have:=q.FZ (s':=c.next s) kk (I bC (I bC sz1)) ⟨_,fF g2,hp,lx.cA,hl,line,(aW m J (kk _ _ (λe=>by rw[e,lx.gO] at ga';cases ga') ga')),rfl,(aW b (kk _ _ (λe=>by rw[e,lx.gO] at gb;cases gb) gb) lb)⟩ J lt
   exact k _ _ this.1 this.2
theorem OV(q:Pa c s h)(k:∀m j,Pa c {s with la:=am} j->Nx c s h {s with la:=am} j->j[m]? =ae (.inst 3 [(12,.int (c.K (s.i+1))),(10,(tk c.aw (s.i+1)).2)])->Q (.ref m) j):P.call am X (n+10) (.fn 26) [.ref c.X] Q h:=by
 refine cs q.gO λx lx=>?_
 have t:=λ(b:aD)=>Lz (t:=b) (C:=Cn X (n+9)) (L:=[ae (.ref c.X)]) (Ev.at (e:= .l 0) (a:=23) (v:=x.jH) (.lo J) (.i lx.gO J J))
 refine bQ _ rfl J ?_
 cases nl:s.la with
 |false=>
  refine i7 (FX lx nl) λl1 l2 l3=>bT (t _ (I l3 J)) (s9 (.lo J) (.i lx.gO J J) .nil (G8 (n:=n) q lx nl J lx.gO (λx_ x_ x_ g=>g) _ λm h₂ b g2 mX lh=>?_) (ac J))
  refine Ev.lo (i:=0) J _ (aW _ (vg (x':={x with jF:=h.length,pos:=hG c.aw (s.i+2),cA:=eP (cm c.aw) (hG c.aw (s.i+2)),line:=oO c.aw (s.i+2),jH:= .ref m}) lh.gO J J) (cJ (.at (.lo J) (.i (fF lh.gO) J J)) ?_))
  have kk:=λ(n:D) o (ne:n≠c.X) (g:h[n]? =ae o)=>cB (z:= .inst 4 (jv c.lc {x with jF:=h.length,pos:=hG c.aw (s.i+2),cA:=eP (cm c.aw) (hG c.aw (s.i+2)),line:=oO c.aw (s.i+2),jH:= .ref m})) (lh.fr n o g ne) ne.symm
  have:=q.FZ (s':={s with la:=am}) kk (I bC lh.sz) ⟨_,fF lh.gO,rfl,rfl,rfl,lx.eY,lx.cur.keep λn fs g=>kk n _ (λe=>by rw[e,lx.gO] at g;cases g) g,(aW m J (cB g2 mX.symm)),(aW b (cB lh.jF (cr (j4 lx.gO))) lh.len)⟩ J q.pE
  exact k _ _ this.1 this.2 (cB g2 mX.symm)
 |true=>
  have ah:=lx.jH
  rw[nl] at ah
  refine aM ah λm ea ga'=>?_;clear ah
  have e:s={s with la:=am}:=by cases s;clear q k lx ga';subst nl;rfl
  exact bm (t _ (I ea J)) (cJ (v:= .ref m) (.at (.lo J) (.i lx.gO J (by refine(?_ :ae x.jH=_);exact I ea J))) (k m h (e▸q) (e▸.refl) ga'))
end
def Kp(h i:H):Prop:=∀(m:D) o,h[m]? =ae o->i[m]? =ae o
def Nh(X:Prop)(n f:D)(a:ag V)(h:H)(k:D):Prop:=∀Q:P1,(∀b i,b.length<=k->Kp h i->Q (.bytes b) i)->P.call am X n (.fn f) a Q h
def Gb(C:Cy)(e:E)(L:bS)(h:H)(k:D):Prop:=∀Q:P1,(∀b i,b.length<=k->Kp h i->Q (.bytes b) i)->(wE C e).1 L Q h
section
variable{C:Cy}{L:bS}{h i p:H}{n k k₁ k₂:D}{X:Prop}{e l r:E}{b:ag D}
theorem Kp.refl:Kp h h:=λa a g=>g
theorem Kp.trans(x:Kp h i)(y:Kp i p):Kp h p:=λm o g=>y m o (x m o g)
theorem Kp.push{o:O}:Kp h (h++[o]):=λa a g=>bH g
theorem Gb.ev(q:Ev C e L h (.bytes b) h)(z:b.length<=k):Gb C e L h k:=λQ g=>q _ (g b h z .refl)
theorem Gb.add(x:Gb C l L h k₁)(y:∀i,Kp h i->Gb C r L i k₂)(z:k₁+k₂<=50000):Gb C (.dy .Add l r) L h (k₁+k₂):=λQ g=>x _ λa c f d=>y c d _ λb j e k=>(dO _ _ (.bytes (az (gS f e) (az z (ac J)))) (g _ _ (I au (gS f e)) (d.trans k)))
theorem Gb.fn{f:D}{d:ag E}{b:ag V}(a:mC (Cn X n) d L h b h)(q:Nh X n f b h k):Gb (Cn X n) (.ca (.c (.fn f)) d) L h k:=λQ g=>n9 a (q _ g)
theorem Gb.fH(q:Gb C e L h k)(z:k<=k₁):Gb C e L h k₁:=λQ g=>q _ λb i l=>g b i (az l z)
theorem Gb.re{Q:P1}(q:Gb C e L h k)(g:∀b i,b.length<=k->Kp h i->Q (.bytes b) i):cD C [.re (ae e)] L (rt Q) h:=q _ g
end
noncomputable abbrev iV(a:ag D):ag V:=a.map λ(b:D)=>V.int b
theorem QB:∀{a:ag D},(∀b∈a,b<256)->qj (iV a)=ae a
 |[],_=>rfl
 |b::r,z=>by
  refine(?_ :(if(0:aF)<=b/\(b:aF)<256 then(qj (iV r)).map (((b:aF).toNat)::·) else ax)=_);exact dG ⟨bN b,f8.mpr (z b (.head _))⟩ (I (QB λx m=>z x (.tail _ m)) J)
theorem UM{a b:aF}(c:0<b)(h:rq b=am):qz .FloorDiv a b=ae (a/b):=by
 unfold qz;exact I h (I (aR c) J)
section
variable{L:bS}{h:H}{n k:D}{X:Prop}
theorem D7(x:k<=5000):Nh X (n+1) 10 [.int k] h 6000:=λQ g=>by
 refine bQ _ rfl J (pY (.bq (.cons (.bi (.cons (.lo J) .nil) .abs) (.cons (.eS .nil) .nil))) lk J (oY (λleft F i=>∃(l:ag D),F=[some (.int k),some (.int left),some (.ref h.length)]/\(∀b∈l,b<256)/\i[h.length]? =some (.list (iV l))/\Y7 l+left<=5000/\Kp h i) k (Qk ([]) J nofun (bH lk) (by refine(?_ :0+k<=_);exact bO 0xd6081b268008ba081b240 J x) (λG G g=>bH (bH g))) λleft F i ⟨l,K,L,q,u,H⟩=>I K ?_))
 have A:(iV l).length<=dW:=by refine I (aH ..) ?_;exact dw 0x356227a0240ba081b268040 J u
 have E:∀j:D,j<=5000->rq j=am:=λj z=>yq ⟨bO 0xd6b02cac9 J,bO 0x35ad871a717ac0ba081b240 J z⟩
 have r:∀{d:D},d<256->∀b∈l++[d],b<256:=λ{d} z b m=>by
  rcases dH.mp m with m|m
  ·exact L b m
  ·exact I (ao.mp m) z
 have s:∀{o:O},Kp h (i.set h.length o):=λ{o} m w g=>cB (H m w g) (fM (j4 g))
 have t:∀{d:D},(iV l++[V.int d])=iV (l++[d]):=λ{d}=>(fj (f:=λ(b:D)=>V.int b) (l₁:=l) (l₂:=[d])).symm
 refine dO (decide ((left:aF)>9)) i (.cj (.lo J) .co (.int J)) ?_
 by_cases c:(left:aF)>9
 ·refine I (aR c) (dG J (ia (.vV (.lo J) (.list q (.inl J)) (.cons (v:= .int ((48+left%10:D):aF)) (.dy .co (.dy (.lo J) .co (.int (k:=((left%10:D):aF)) J)) (.int (jt (a:=48) J (E _ (Vq))))) .nil) (.ii q A) (aa J)) (cZ (v:= .int ((left/10:D):aF)) (.dy (.lo J) .co (.int (UM (a:=left) (b:=10) (aa J) J))) ⟨left/10,Q4 c,l++[48+left%10],rfl,r (Vp),?_,?_,s⟩)))
  ·exact I (aQ t) (fF q)
  ·refine I au (?_ :_+1+_<=_);exact Vo u c
 ·refine I (aO c) (cM aC (ia (.vV (.lo J) (.list q (.inl J)) (.cons (v:= .int ((48+left:D):aF)) (.dy .co (.lo J) (.int (jt (a:=48) J (E _ (bO 0x358206c9032ac0ad1 J c))))) .nil) (.ii q A) (aa J)) ?_))
  have y:(i.set h.length (.list (iV l++[V.int ((48+left:D):aF)])))[h.length]? =some (.list (iV (l++[48+left]))):=by refine I t ?_;exact fF q
  have B:(iV (l++[48+left])).length<=dW:=by refine I (aH ..) ?_;refine I au ?_;refine(?_ :_+1<=dW);exact dw 0x356227a0268240ba081b268040 J u
  refine bm (.cj (.lo J) .co (.int (aL some (aO (bO 0x39ac8ac0 J))))) (ia (.vV (.lo J) (.list y (.inr (.inr (.inl J)))) .nil (.Wo y B) (aa J)) ?_)
  have e:(iV (l++[48+left])).reverse=iV (l++[48+left]).reverse:=Bz.symm
  refine cJ (.ty (.cons (.lo J) .nil) (.list (b:=(l++[48+left]).reverse) (e▸fF y) (by exact I (aQ e) (I iF B)) (QB λb m=>r (bO 0x366182680182f2ac0ad1 J c) b (Xe.mp m)))) (g _ _ ?_ λm w C=>cB (s m w C) (fM (j4 C)))
  refine I iF (I au (?_ :_+1<=_));exact dw 0xd587df268240ba081b268040 J u
theorem D6(lk:k<=5000):Nh X (n+2) 11 [.int k] h 6000:=λQ g=>
 (bQ _ rfl J (bm (.of J (.bi (.cons (.lo J) (.cons .co .nil)) .Dk) J) (bT (.of J (.fn (.cons (.lo J) .nil) (v:= .bool am) λQ k=>(bQ _ rfl J (cJ (λQ q=>Ev.bi (.cons (.lo J) (.cons .co .nil)) .isInt _ (aW am J (Ev.bi (.cons (.lo J) (.cons .co .nil)) .Hh _ (aW ai J q)))) k))) J) (Gb.re (.fn (.cons (.lo J) .nil) (D7 lk)) g))))
end
noncomputable def kQ(k:D):ag V:=match(kL[k]? :av O) with|some (.list xs)=>xs|_=>[]
noncomputable def G5:av V->aD
 |some (.bytes b)=>decide (b.length<=20)
 |_=>ai
theorem Ef{o:av V}(z:G5 o=am):∃b,o=ae (.bytes b)/\b.length<=20:=by
 induction o with
 |none=>exact ft z
 |some v=>cases v<;>first|exact(aW _ rfl (aa z))|exact ft z
section
variable{C:Cy}{L:bS}{h a:H}{n:D}{X:Prop}{e:E}
theorem Gb.dQ{k N j:D}(i:C.K k=ae (.list (kQ k)))(m:(kQ k).length=N)(d:N<=100)(y:Ev C e L h (.int j) h)(f:j<N)(ok:((tH N).all λj=>G5 (kQ k)[j]?)=am):Gb C (.sub (.c (.aV k)) e) L h 20:=aM (Ef (aS.mp ok j (List.mem_range.mpr f))) λb g l=> .ev (.sub .co y (.list (k:=j) i (by
 unfold Az;exact I m (dG (az d (ac J)) (dG (bN j) (dG (f) J)))) g)) l
theorem nZ{k:aF}(f:xc k=am):Nh X (n+2) 22 [.int k] h 20:=λQ g=>by
 refine bQ _ rfl J ?_;rcases hP _ _|>.mp f with f|f<;>rw[aq,fw,fw] at f<;>(refine cv f λi d=>?_;clear f)
 ·exact bT (o9 (.lo J) .co (aL ae (aR (j5 0x36ad960902fae73c0 J d)))) (bm (.of J (.fn (.cons (.lo J) .nil) (λQ q=>(bQ _ rfl J (cJ (.or (λQ z=>Et.jQ (o1:= .LtE) (o2:= .Lt) .co (.lo J) (.int (aL ae (aR (j5 0x3502b22e02b60a J i)))) .co (.int (aL ae (aO (j5 0xe6b60a02e02b60a J i)))) (λt=>Q (.bool t)) z) (.OZ (.cj (.lo J) .co (.int (aL ae (aK.mpr (j5 0x3aae73c0d2fae73c0 J d)))))) λm=>rfl) q)))) J) (cJ (.ty (.cons (.eS (.cons (.lo J) .nil)) .nil) (.list (b:=[k.toNat]) lk (by refine(?_ :1<=dW);exact ac J) (by
   refine(?_ :(if(0:aF)<=k/\k<256 then(qj []).map (k.toNat::·) else ax)=_);exact dG ⟨j5 0x3502b22e02b60a J i,j5 0x36ad860902fae73c0 J d⟩ J))) (g _ _ (by refine(?_ :1<=20);exact ac J) .push)))
 ·obtain⟨j,rfl⟩:∃j:D,k=257+j:=⟨(k-257).toNat,Vn i⟩;have l:∀{L:bS},Ev (Cn X (n+1)) (.ca (.c (.bi 0)) [.c (.aV 0)]) L h (.int (21:D)) h:= .bi (.cons .co .nil) (nD.list (xs:=kQ 0) J (ac J));refine bm (o9 (.lo J) .co (aL ae (aO (bO 0xe6b658268ac0ad9609 J)))) (cZ (v:= .int j) (.dy (.lo J) .co (.int ((mJ (yq (⟨bO 0x35a2b02b65826cac9 J,bO 0xd6b61c69c5e8ac0ad9609bab9d9268ac0ad9609 J d⟩)) J).trans (aL ae (bO 0x37ac0aab658268ac0ad9609 J))))) ?_);by_cases c:j<21
  ·exact Gb.re (e:= .jP _ _ _) (λQ g=>Et.cj (op:= .Lt) (.lo J) l (.int (aL ae (aR (bO 0xdab749ac0bdd240 J c)))) _ (Gb.dQ (N:=21) J J (ac J) (.lo J) c (aa J) Q g)) g
  ·exact Gb.re (e:= .jP _ _ _) (λQ g=>Et.cj (op:= .Lt) (.lo J) l (.int (aL ae (aO (bO 0xe6b749ac0c9d240 J c)))) _ (Gb.dQ (N:=10) (j:=j-21) J J (ac J) (.dy (.lo J) l (.int ((mJ (yq (⟨bO 0xd6b02cac9 J,bO 0x35ad871a717ac0bab9d9268ac0ad9609 J d⟩)) J).trans (aL ae (Vm c))))) (Vl d) (aa J) Q g)) g
end
section
variable{c:Pc}{s:St}{h a:H}{n:D}{X:Prop}{Q:P1}{L:bS}
theorem Pa.kp(q:Pa c s h)(k:Kp h a):Pa c s a:=q.keep λn o g b=>k n o g
theorem Pc.jq(w:oW c.aw)(i:D):xc (c.K i)=am:=by
 unfold Pc.K tk;cases e:c.aw[i]? with
 |none=>rfl
 |some r=>exact w.jq r (bI e)
theorem Pc.qk(w:oW c.aw):∃k:D,c.ln s=k/\k<=5000:=by
 have:=MR c.aw s.rd;exact aW ((c.ln s).toNat) (by exact Q3 ‹1<=oO c.aw s.rd/\oO c.aw s.rd<=1+↑c.aw.length›) (by exact Vk ‹1<=oO c.aw s.rd/\oO c.aw s.rd<=1+↑c.aw.length› w.o0)
theorem KE{k:aF}(q:Pa c s h)(ok:xc k=am):Nh X (n+4) 28 [.ref c.X,.int k] h 10000:=λQ g=>by
 refine cs q.gO λx d=>aM d.jF λb j e=>bQ _ rfl J (m8 (.cj (.lo J) (.bq (.cons .co (.cons .co (.cons .co .nil)))) (.s7 (mz (is:=[285,286,284]) lk))) (λf=>?_) λf=>?_)
 ·exact cJ (.ty (.cons (.at (.lo J) (.i (bH d.gO) J J)) .nil) (.f7 (bH j) (az e (ac J)))) (g _ _ e .push)
 ·exact Gb.re (.fn (.cons (.lo J) .nil) (nZ ok)) λb a l k=>g b a (az l (ac J)) (Kp.push.trans k)
theorem Li{m:ag D}{f:V}(q:Pa c s h)(l:(Y7 m)<=30000)(A:f= .none\/∃k,f= .int k/\xc k=am)(j:X):P.call am X (n+5) (.fn 27) [.ref c.X,.bytes m,f] Q h:=by
 refine cs q.gO λx e=>aM (Pc.qk (s:=s) q.ok) λp B w=>bQ _ rfl J (?_ :(wE _ (.dy .Add (.dy .Add (.dy .Add (.dy .Add (.at (.l 0) 14) (.c (.bytes [58]))) (.ca (.c (.fn 11)) [.at (.l 0) 19])) (.c (.bytes [58,32]))) (.l 1))).1 _ _ _);refine Gb.add (.add (.add (.add (.ev (b:=[108,97,119]) (.at (.lo J) (.i e.gO J J)) (ac J:3<=3)) (λa d=> .ev .co (ac J:1<=1)) (ac J)) (λa k=> .fn (.cons (.at (v:= .int p) (.lo J) (.i (k _ _ e.gO) J (by refine(?_ :ae (V.int x.line)=ae (V.int p));exact I e.line (I B J)))) .nil) (D6 (n:=n+2) w)) (ac J)) (λa d=> .ev .co (ac J:2<=2)) (ac J)) (λa d=> .ev (.lo J) l) (ac J) _ λb t y z=>?_;rcases A with rfl|⟨k,rfl,u⟩
 ·exact bm (my (.lo J) J) (Qx (.lo J) j)
 ·refine bT (my (.lo J) J) ?_;have o:=q.kp z;refine(?_ :(wE _ (.dy .Add (.dy .Add (.dy .Add (.l 3) (.c (.bytes [32,110,101,97,114,32,39]))) (.me (.l 0) 25 [.l 2])) (.c (.bytes [39])))).1 _ _ _);refine Gb.add (k₁:=49000) (k₂:=1) (Gb.fH (.add (.add (.ev (.lo J) y) (λa d=> .ev .co (ac J:7<=7)) (ac J)) (λa k=>λQ g=>?_) (ac J:3+1+6000+2+30000+7+10000<=50000)) (ac J)) (λa d=> .ev (b:=[39]) .co (ac J)) (ac J) _ λC r d d=>Qx (ss:=[]) (Q:=rt Q) (.lo J) j;exact cs ((o.kp k).gO) λx e=>s9 (.lo J) (.i e.gO J J) (.cons (.lo J) .nil) (KE (o.kp k) u Q g) (ac J)
end
def Sp(c:Pc)(s:St)(h:H)(a:St)(j:H):Prop:=Pa c a j/\Nx c s h a j
theorem Pz.to{c:Pc}{b s e:St}{d h j:H}{a:ag (D×O)}(q:Pz c b d a s h)(z:Sp c s h e j):Pz c b d a e j:=q.step z.1 z.2
theorem Pz.sp{c:Pc}{b s:St}{d h:H}{a:ag (D×O)}(q:Pz c b d a s h):Sp c b d s h:=⟨q.ps,q.nx⟩
theorem Sp.trans{c:Pc}{s f d:St}{h j e:H}(a:Sp c s h f j)(b:Sp c f j d e):Sp c s h d e:=⟨b.1,a.2.trans b.2⟩
section
variable{c:Pc}{s:St}{h j p:H}{n:D}{X:Prop}{Q:P1}{L:bS}{k:aF}{vs:ag V}{es:ag E}{u:ag S}{R:PS}
theorem Pa.push(q:Pa c s h){o:O}:Sp c s h s (h++[o]):=(q.pz.push o).sp
theorem Pa.at(q:Pa c s h)(b:L[0]? =ae (ae (.ref c.P))){a:D}{v:V}(f:P.fld 9 a=am)(g:(xa c (.ref s.hd.r) s.d s.made).lookup a=ae v):Ev (Cn X n) (.at (.l 0) a) L h v h:= .at (.lo b) (.i q.mH f g)
theorem Pa.lx(q:Pa c s h)(b:L[0]? =ae (ae (.ref c.P))){a:D}{v:V}(f:P.fld 4 a=am)(g:∀x,yu c s h x->(jv c.lc x).lookup a=ae v):Ev (Cn X n) (.at (.at (.l 0) 53) a) L h v h:=
 cs q.gO λx lx=> .at (q.at b J J) (.i lx.gO f (g x lx))
theorem Pa.line(q:Pa c s h)(b:L[0]? =ae (ae (.ref c.P))):Ev (Cn X n) (.at (.at (.l 0) 53) 19) L h (.int (c.ln s)) h:=q.lx b J λx a=>aL (λi=>ae (V.int i)) a.line
theorem Pa.eY(q:Pa c s h)(b:L[0]? =ae (ae (.ref c.P))):Ev (Cn X n) (.at (.at (.l 0) 53) 20) L h (.int s.eY) h:=q.lx b J λx a=>aL (λi=>ae (V.int i)) a.eY
theorem Pa.cur(q:Pa c s h)(b:L[0]? =ae (ae (.ref c.P))):∃m,Ev (Cn X n) (.at (.at (.l 0) 53) 22) L h (.ref m) h/\h[m]? =ae (.inst 3 [(12,.int (c.K s.i)),(10,(tk c.aw s.i).2)]):=cs q.gO λx a=>aM a.cur λm e g=>aW m (.at (q.at b J J) (.i a.gO J (by refine(?_ :ae x.cur=_);exact I e J))) g
theorem Pa.me(q:Pa c s h)(o:L[0]? =ae (ae (.ref c.P))){a f:D}(m:P.fI 9 a=ae f)(g:(xa c (.ref s.hd.r) s.d s.made).lookup a=ax)(b:mC (Cn X n) es L h vs p)(k:P.call am X n (.fn f) (.ref c.P::vs) Q p)(e:a<1000):(wE (Cn X n) (.me (.l 0) a es)).1 L Q h:=s9 (.lo o) (.i q.mH m g) b k e
theorem Pa.mx(q:Pa c s h)(o:L[0]? =ae (ae (.ref c.P))){a f:D}(m:P.fI 4 a=ae f)(g:∀x,(jv c.lc x).lookup a=ax)(b:mC (Cn X n) es L h vs p)(k:P.call am X n (.fn f) (.ref c.X::vs) Q p)(e:a<1000):(wE (Cn X n) (.me (.at (.l 0) 53) a es)).1 L Q h:=
 cs q.gO λx d=>s9 (q.at o J J) (.i d.gO m (g x)) b k e
theorem OW(q:Pa c s h):Ru X (n+1) 50 [.ref c.P] h (.int (c.K s.i)) h:=λQ k=>
 aM (q.cur (X:=X) (n:=n) (L:=[ae (.ref c.P)]) J) λm a g=>(bQ _ rfl J (cJ (.at a (.i g J J)) k))
theorem Pa.kind(q:Pa c s h)(a:L[0]? =ae (ae (.ref c.P))):Ev (Cn X (n+1)) (.me (.l 0) 57 []) L h (.int (c.K s.i)) h:= .me (.lo a) (.i q.mH J J) .nil (OW q) (ac J)
theorem A3{e:E}(q:Pa c s h)(g:L[0]? =ae (ae (.ref c.P))){b:D}(m:Gb (Cn X (n+6)) e L h b)(f:b<=30000)(d:X):cD (Cn X (n+6)) (.ex (.me (.l 0) 58 [e])::u) L R h:=by
 refine Ev.lo (C:=Cn X (n+6)) g _ ?_;unfold rY;refine dG (ac J) (aW 51 (uR c.P 9 _ rfl q.mH J J) (m _ λb j l k=>(bQ _ rfl J ?_)));have a:=q.kp k;exact a.mx (n:=n+5) J J (λi=>rfl) (.cons (.lo J) (.cons (a.kind J) .nil)) (Li (n:=n) a (az l f) (.inr (aW _ rfl (Pc.jq q.ok _))) d) (ac J)
theorem lW{b:ag D}(q:Pa c s h)(e:L[0]? =ae (ae (.ref c.P)))(a:X)(d:b.length<=30000):cD (Cn X (n+6)) (.ex (.me (.l 0) 58 [.c (.bytes b)])::u) L R h:=A3 q e (.ev .co (aE _)) d a
theorem GR{e:E}(q:Pa c s h)(g:L[0]? =ae (ae (.ref c.P)))(m:Ev (Cn X (n+7)) e L h (.int k) h)(ok:xc k=am)(d:X):cD (Cn X (n+7)) (.ex (.me (.l 0) 60 [e])::u) L R h:=
 q.me (f:=52) (vs:=[.int k]) g J J (.cons m .nil) (bQ _ rfl J (A3 (n:=n) (b:=1+20+10) q J (.add (.add (.ev .co (ac J)) (λj a=> .fn (.cons (.lo J) .nil) (nZ ok)) (ac J)) (λj a=> .ev .co (ac J)) (ac J)) (ac J) d)) (ac J)
theorem Pc.lt{i:D}(e:c.K i≠287):i<c.aw.length:=by
 refine gM λz=>e ?_;unfold Pc.K tk;refine I (dF z) ?_;rfl
theorem oJ(q:Pa c s h)(d:L[0]? =ae (ae (.ref c.P)))(e:c.K s.i≠287){Q:P1}(k:∀v j,Sp c s h (c.next s) j->Q v j):(wE (Cn X (n+10)) (.me (.at (.l 0) 53) 59 [])).1 L Q h:=q.mx d J (λf=>rfl) .nil (OU q (Pc.lt e) λv j a b=>k v j ⟨a,b⟩) (ac J)
theorem bj{C:Cy}{e:E}{a b:aF}(q:Ev C e L h (.int a) h){c:CmpOp}{d:E}(f:Ev C d L h (.int b) h){t:aD}(z:n6 c a b=ae t):Et C (.cj c e d) L h t h:= .cj q f (.int z)
theorem EB{a b:aF}(z:a≠b):n6 .NotEq a b=ae am:=aL (λb=>ae (!b)) (aK.mpr z)
theorem EC{a b:aF}(z:a=b):n6 .NotEq a b=ae ai:=aL (λb=>ae (!b)) (a6.mpr z)
theorem iA{a b:aF}(z:a=b):n6 .Eq a b=ae am:=aL ae (a6.mpr z)
theorem ib{a b:aF}(z:a≠b):n6 .Eq a b=ae ai:=aL ae (aK.mpr z)
theorem Be(q:Pa c s h)(e:k≠287)(b:c.K s.i≠k->Q (.bool ai) h)(a:c.K s.i=k->∀j,Sp c s h (c.next s) j->Q (.bool am) j):P.call am X (n+11) (.fn 54) [.ref c.P,.int k] Q h:=by
 refine bQ _ rfl J ?_;by_cases z:c.K s.i=k
 ·exact bm (bj (q.kind J) (.lo J) (EC z)) (oJ q J (z▸e) λv j w=>cJ .co (a z j w))
 ·exact bT (bj (q.kind J) (.lo J) (EB z)) (cJ .co (b z))
theorem yA(q:Pa c s h)(ok:xc k=am)(b:c.K s.i≠k->X)(a:c.K s.i=k->Q .none h):P.call am X (n+8) (.fn 55) [.ref c.P,.int k] Q h:=by
 refine bQ _ rfl J ?_;by_cases z:c.K s.i=k
 ·exact bm (bj (q.kind J) (.lo J) (EC z)) (a z)
 ·exact bT (bj (q.kind J) (.lo J) (EB z)) (GR q J (.lo J) ok (b z))
theorem xO(q:Pa c s h)(ok:xc k=am)(e:k≠287)(b:c.K s.i≠k->X)(a:c.K s.i=k->∀j,Sp c s h (c.next s) j->Q .none j):P.call am X (n+11) (.fn 56) [.ref c.P,.int k] Q h:=
 (bQ _ rfl J (q.me (n:=n+10) J J J (.cons (.lo J) .nil) (yA (n:=n+2) q ok b λz=>oJ q J (z▸e) λv j w=>a z j w) (ac J)))
theorem rV(q:Pa c s h)(d:c.K s.i≠285->X)(b:c.K s.i=285->∀j,Sp c s h (c.next s) j->Q (tk c.aw s.i).2 j):P.call am X (n+11) (.fn 58) [.ref c.P] Q h:=
 (bQ _ rfl J (q.me (n:=n+10) J J J (.cons .co .nil) (yA (n:=n+2) q J d λz=>aM (q.cur (X:=X) (n:=n+10) (L:=[ae (.ref c.P),none]) J) λm a g=>cZ (.at a (.i g J J)) (oJ q J (I z (aa J)) λv j w=>cJ (.lo J) (b z j w))) (ac J)))
theorem KG{i:D}(l:i<=100000):Nh X (n+1) 66 [.int i] h 2000:=λQ g=>by
 have b:((toString i).toList.map Ud).all (·<128)=am/\((toString i).toList.map Ud).length<=2000:=by
  refine I (show(toString i).toList=Nat.toDigits 10 i from I (show(toString i)=Nat.repr i from J) (I Nat.toList_repr J)) ?_
  refine⟨aS.mpr λa m=>?_,I (aH ..) (az (((Nat.length_toDigits_le_iff (ac J) (ac J)).mpr (cR l (ac J))):(Nat.toDigits 10 i).length<=8) (ac J))⟩
  refine sr a (NQ.mp m) λd c=>?_
  have:=Nat.isDigit_of_mem_toDigits (ac J) (ac J) c
  unfold Char.isDigit at this
  rw[aq,fw,fw] at this
  exact aR (cR (this.2) (ac J))
 exact bQ _ rfl J (cJ (.vV (.ty (.cons (.lo J) .nil) (.str (cR l (ac J)))) Bq.iW (.cons .co .nil) (.iW b.1 (az b.2 (ac J))) (aa J)) (g _ _ b.2 .refl))
theorem Lh{o:aF}{g:D}(q:Pa c s h)(ok:xc k=am)(f:xc o=am)(e:k≠287)(v:g<=5000)(r:c.K s.i≠k->X)(d:c.K s.i=k->∀j,Sp c s h (c.next s) j->Q .none j):P.call am X (n+12) (.fn 57) [.ref c.P,.int k,.int o,.int g] Q h:=by
 refine bQ _ rfl J (q.me (n:=n+11) J J J (.cons (.lo J) .nil) (Be q e (λz=>(aW ai J ?_)) λz j w=>(aW am J (d z j w))) (ac J));have m:=r z;exact m8 (t:=(g:aF)==c.ln s) (bj (.lo J) (q.line J) J) (λa=>GR q J (.lo J) ok m) λa=>Gb.fn (.cons (.lo J) .nil) (nZ f) _ λb j x y=>A3 (b:=1+20+22+20+10+2000+1) (q.kp y) J (.add (.add (.add (.add (.add (.add (.ev .co (ac J)) (λa a=>(λl o=> .fn (.cons (.lo l) .nil) (nZ o)) J ok) (ac J)) (λj a=> .ev .co (ac J)) (ac J)) (λj a=> .ev (.lo J) x) (ac J)) (λj a=> .ev .co (ac J)) (ac J)) (λj a=> .fn (.cons (.lo J) .nil) (KG (az v (ac J)))) (ac J)) (λj a=> .ev .co (ac J)) (ac J)) (ac J) m
end
section
variable{c:Pc}{s:St}{h j:H}{n:D}{X:Prop}{Q:P1}{L:bS}{made B:D}
theorem iy{N m:D}{o₀ z o:O}(g:h[N]? =ae o₀)(b:o≠o₀)(a:h[m]? =ae o):(h.set N z)[m]? =ae o:=cB a λe=>by revert a;refine sb e λa=>?_;rw[g] at a;revert b;exact sb (si a) λb=>b J
theorem Tw.under{d:ag Sc}{N a:D}{b z:O}(q:Tw h made B d)(f:made<=a)(l:hi B d<=N\/N<B)(g:h[N]? =ae b)(nt:∀c,.bq c≠b):Tw (h.set N z) a B d:=q.keep f (λn c e=>iy g (nt c) e) λt m k i o e=>cB e (Vj l ((q.lo).2 t m k i))
theorem Pa.Jl(q:Pa c s h)(l a:D)(p:s.made<=a)(i:a<=59):Sp c s h {s with d:=l,made:=a} (h.set c.P (.inst 9 (xa c (.ref s.hd.r) l a))):=by
 refine cs q.gO λx n=>?_;have f:∀{m:D} {o:O} {z:O},(∀t,o≠.inst 9 t)->h[m]? =ae o->(h.set c.P z)[m]? =ae o:=λz g=>iy q.mH (z _) g;exact⟨⟨q.ok,fF q.mH,f (λb z=>nomatch z) q.lm,f (λb z=>nomatch z) q.kd,⟨x,n.keep (λo g=>cB g q.lt.2.2) (λb b=>f λb z=>nomatch z) (λb b=>f λb z=>nomatch z) J J J⟩,q.tw.under p (.inr q.lt.1) q.mH (λb z=>nomatch z),i,q.lt,q.pE,q.zA⟩,
  λk o g m=>cB g λe=>m (.inl e.symm),λk b m=>m,I bC (aE _)⟩
theorem Pa.Qu(q:Pa c s h)(t:Sc){N:D}{e z:O}(A:N=s.hd.r\/N=s.hd.sn)(g:h[N]? =ae e)(nt:(∃k,e= .inst 6 k)\/∃l,e= .list l)(p:t.r=s.hd.r)(E:t.bo=s.hd.bo)(w:HI (h.set N z) s.made (wg s.cS) t):Pa c {s with hd:=t} (h.set N z):=by
 refine cs q.gO λx n=>i7 q.tw λy v u=>?_;have f:∀{m:D} {o:O},(∀k,o≠.inst 6 k)->(∀l,o≠.list l)->h[m]? =ae o->(h.set N z)[m]? =ae o:=λa b i=>iy g (by rcases nt with⟨_,rfl⟩|⟨_,rfl⟩<;>first|exact a _|exact b _) i;exact⟨q.ok,f (λd z=>nomatch z) (λd z=>nomatch z) (by rewrite[p];exact q.mH),f (λd z=>nomatch z) (λd z=>nomatch z) q.lm,f (λd z=>nomatch z) (λd z=>nomatch z) q.kd,⟨x,n.keep (λo i=>iy g (by rw[n.gO] at i;refine sb (si i) ?_;rcases nt with⟨_,rfl⟩|⟨_,rfl⟩<;>nofun) i) (λd d=>f (λd z=>nomatch z) λd z=>nomatch z) (λd d=>f (λd z=>nomatch z) λd z=>nomatch z) J rfl rfl⟩,
  (bX w (by rewrite[p];exact v) (u.under (aE _) (.inl (show hi c.B s.cS<=N by have:=y.lt;rcases A with rfl|rfl<;>lia)) g (by rcases nt with⟨_,rfl⟩|⟨_,rfl⟩<;>nofun))),q.made,q.lt,q.pE,q.zA⟩
theorem Pa.hd(q:Pa c s h):∃b a,h[s.hd.r]? =ae (.inst 6 (Eh (wg s.cS) s.hd b))/\h[s.hd.sn]? =ae (.list a)/\Y7 a=s.hd.n/\qm h s.made a:=cs q.tw.1.at_ λb g=>cs q.tw.1.seen λa d=>dO b a g d
theorem Pa.Qt(q:Pa c s h)(t:Sc)(u:aD)(i:t.r=s.hd.r)(k:t.bo=s.hd.bo)(y:∃b,h[t.sn]? =ae (.list b)/\Y7 b=t.n/\qm h s.made b)(l:t.n<=200)(lt:s.hd.r<t.sn/\t.sn≠s.hd.bo):Pa c {s with hd:=t} (h.set s.hd.r (.inst 6 (Eh (wg s.cS) t u))):=by
 refine cY q.hd λx d g d=>kh y λb A e v=>?_;have w:=q.tw.1;have p:∀{m:D} {o z:O},(∀B,o≠.inst 6 B)->h[m]? =ae o->(h.set s.hd.r z)[m]? =ae o:=λa f=>iy g (a _) f;exact q.Qu _ (.inl J) g (.inl ⟨_,rfl⟩) i k ⟨⟨u,I i (fF g)⟩,(bQ b (p (λd z=>nomatch z) A) e (v.keep (λn C=>p λd z=>nomatch z) (aE _))),l,I k (w.jr.keep (aE _) λo f=>cB f (cr w.lt.2.1)),I i (I k (bX lt.1 w.lt.2.1 lt.2))⟩
theorem B1{t:Sc}{k:D}(z:k=t.r\/k=t.sn\/k=t.bo->Mu c s k):Mu c {s with hd:=t} k->Mu c s k:=λm=>by
 rcases m with m|m|⟨u,m,a⟩
 ·exact .inl m
 ·exact .inr (.inl m)
 ·rcases aZ.mp m with rfl|m
  ·exact z a
  ·exact .inr (.inr (aW u (.tail _ m) a))
theorem Pa.Eg(q:Pa c s h)(a:D)(b d:aD):Sp c s h {s with hd:={s.hd with dB:=a,va:=b}} (h.set s.hd.r (.inst 6 (Eh (wg s.cS) {s.hd with dB:=a,va:=b} d))):=by
 refine cY q.hd λi f g n=>?_;have w:=q.tw.1;exact⟨q.Qt {s.hd with dB:=a,va:=b} d J J ⟨f,n⟩ w.uE ⟨w.lt.1,w.lt.2.2⟩,λk o g m=>cB g λe=>m (.inr (.inr (aW _ (.head _) (.inl e.symm)))),λk p=>B1 λl=> .inr (.inr (aW _ (.head _) l)),I bC (aE _)⟩
theorem Pa.Re(q:Pa c s h){b vs:ag V}(g:h[s.hd.sn]? =ae (.list b))(u:qm h s.made vs)(l:s.hd.n+Y7 vs<=200):Sp c s h {s with hd:={s.hd with n:=s.hd.n+Y7 vs}} (h.set s.hd.sn (.list (b++vs))):=by
 refine uS q.hd λy r B p e x=>?_;rw[g] at p;cases p;have w:=q.tw.1;have f:∀{m:D} {o z:O},(∀l,o≠.list l)->h[m]? =ae o->(h.set s.hd.sn z)[m]? =ae o:=λa i=>iy g (a _) i;exact⟨q.Qu _ (.inr J) g (.inr ⟨_,rfl⟩) J J ⟨⟨y,f (λd z=>nomatch z) B⟩,(bQ (b++vs) (fF g) (I au (I e J)) (λv m=>(dH.mp m).elim (x.keep (λn t=>f λd z=>nomatch z) (aE _) v) (u.keep (λn t=>f λd z=>nomatch z) (aE _) v))),l,w.jr.keep (aE _) λo i=>cB i w.lt.2.2,w.lt⟩,
  λk o g m=>cB g λe=>m (.inr (.inr (aW _ (.head _) (.inr (.inl e.symm))))),λk d=>B1 λA=> .inr (.inr (aW _ (.head _) A)),I bC (aE _)⟩
theorem Pa.sc(q:Pa c s h)(e:L[0]? =ae (ae (.ref c.P))){a:D}{v:V}(f:P.fld 6 a=am)(g:∀b,(Eh (wg s.cS) s.hd b).lookup a=ae v):Ev (Cn X n) (.at (.at (.l 0) 54) a) L h v h:=
 cY q.hd λb d k d=> .at (q.at e J J) (.i k f (g b))
theorem Pa.BU{t:Sc}{b:aD}{o:V}(g:h[t.r]? =ae (.inst 6 (Eh o t b))){a:D}{v:V}(f:P.fld 6 a=am):qh P.fld h (.ref t.r) a v (h.set t.r (.inst 6 (setField a v (Eh o t b)))):=(.i g f (by refine(?_ :7<=900);exact ac J))
theorem Pa.Nm(q:Pa c s h){a:D}{v:V}{d m:D}(f:P.fld 9 a=am)(e:setField a v (xa c (.ref s.hd.r) s.d s.made)=xa c (.ref s.hd.r) d m):qh P.fld h (.ref c.P) a v (h.set c.P (.inst 9 (xa c (.ref s.hd.r) d m))):=(tU _ 9 _ rfl q.mH f (by refine(?_ :5<=900);exact ac J) (I e J))
theorem Pa.dW(q:Pa c s h)(b:L[0]? =ae (ae (.ref c.P))){a:D}{v:V}(f:P.fld 0 a=am)(g:y8.lookup a=ae v):Ev (Cn X n) (.at (.at (.l 0) 15) a) L h v h:= .at (q.at b J J) (.i q.lm f g)
theorem dU{k:D}(l:k<=100000):rq k=am:=yq ⟨bO 0xd6b02cac9 J,bO 0xd6b61c69c5eb02e6227a0240 J l⟩
theorem Dg(q:Pa c s h)(lt:s.d<40)(k:∀j,Sp c s h {s with d:=s.d+1} j->Q .none j):P.call am X (n+1) (.fn 59) [.ref c.P] Q h:=by
 have w:=q.Jl (s.d+1) s.made (aE _) q.made;exact bQ _ rfl J (ub (.lo J) (.i q.mH J J) .co (nT s.d 1 J J (jt (dU (bO 0x356227a0240be0280 J lt)) J)) (q.Nm (d:=s.d+1) (m:=s.made) J J) (bm (bj (w.1.at (v:= .int ((s.d+1:D):aF)) J J J) (w.1.dW (v:= .int 40) J J J) (aL ae (aO (bO 0xe6ba0902b80abe0280 J lt)))) (k _ w)))
theorem Df{d:D}(q:Pa c s h)(e:s.d=d+1)(lt:d<=40)(k:∀j,Sp c s h {s with d:=d} j->Q .none j):P.call am X (n+1) (.fn 60) [.ref c.P] Q h:=bQ _ rfl J (ub (.lo J) (.i q.mH J J) .co (nT s.d 1 J J (mJ (dU (dw 0xd5889e80902e80a070a09040 J e lt)) J)) (q.Nm (d:=d) (m:=s.made) J (aL (λi=>[(15,V.ref c.LM),(53,.ref c.X),(54,.ref s.hd.r),(55,V.int i),(56,V.int s.made)]) (show(s.d:aF)-1=d by exact dw 0xdeb06aac9ac0c28241034 J e))) (k _ (q.Jl d s.made (aE _) q.made)))
theorem Pa.BP(q:Pa c s h)(a:L[0]? =ae (ae (.ref c.P))):Ev (Cn X n) (.at (.at (.l 0) 54) 48) L h (.ref s.hd.sn) h:=q.sc a J λb=>rfl
theorem Pa.yZ(q:Pa c s h)(b:L[0]? =ae (ae (.ref c.P))):Ev (Cn X n) (.ca (.c (.bi 0)) [.at (.at (.l 0) 54) 48]) L h (.int s.hd.n) h:=
 uS q.hd λa d a g e a=>e▸.bi (.cons (q.BP b) .nil) (nD.list g (I e (az q.tw.1.uE (ac J))))
theorem xP{m:D}(q:Pa c s h)(l:s.hd.n+m<=200)(k:Q .none h):P.call am X (n+1) (.fn 62) [.ref c.P,.int m] Q h:=
 (bQ _ rfl J (bm (bj (.dy (q.yZ J) (.lo J) (.int (jt (dU (dw 0x356227a0240ba0528040 J l)) (dU (dw 0x356227a0241ba0528040 J l))))) (q.dW (v:= .int 200) J J J) (aL ae (aO (dw 0x39a2b06b02b814ba0528040 J l)))) k))
theorem OX(q:Pa c s h)(l:s.hd.n+3<=200)(k:∀j,Sp c s h {s with hd:={s.hd with n:=s.hd.n+3}} j->Q .none j):P.call am X (n+2) (.fn 87) [.ref c.P,.int 3] Q h:=by
 have f:=(q.push (o:= .bq [.bytes [40,102,111,114,32,115,116,97,116,101,41],.int (-1)]));have d:=f.trans (f.1.push (o:= .list [.ref h.length]));have a:=d.trans (d.1.push (o:= .list [.ref h.length,.ref h.length,.ref h.length]));refine uS a.1.hd λb i b g e b=>?_;have p:=a.1.Re (vs:=[.ref h.length,.ref h.length,.ref h.length]) g (λv m=>(uR h.length _ (-1) (by simpa using m) (bH (bH lk)) (bO 0xdab02cac9 J) (.inr J))) l;refine bQ _ rfl J (q.me (n:=n+1) J J J (.cons (.lo J) .nil) (xP (n:=n) q l ?_) (ac J));refine ia (.vV (q.BP J) (.list (q.hd.choose_spec.choose_spec.2.1) (.inr (.inl J))) (.cons (.dy (.eS (.cons (.bq (.cons .co (.cons (.neg .co) .nil))) .nil)) (.lo J) (.mul (n:=3) (xs:=[.ref h.length]) (lk) ⟨ac J,by refine(?_ :1<=10);exact ac J⟩)) .nil) (.ext (ys:=[.ref h.length,.ref h.length,.ref h.length]) g (lk) (λe=>?_) (by refine I e (?_ :s.hd.n+3<=dW);exact az l (ac J))) (aa J)) (k _ (a.trans p));have:=j4 q.hd.choose_spec.choose_spec.2.1;rw[<-e,au,au] at this;exact gC 0xeef0280a8040 J this
theorem vx{m:D}(q:Pa c s h)(k:∀j d,Sp c s h {s with hd:={s.hd with sn:=d,n:=min m s.hd.n}} j->Q .none j):P.call am X (n+1) (.fn 63) [.ref c.P,.int m] Q h:=by
 refine uS q.hd λx a i g e r=>?_
 have w:=q.tw.1
 have f:=q.push (o:= .list (gN a ax (ae m)))
 have B:gN a ax (ae (m:aF))=a.take (min m (Y7 a)):=by refine(?_ :(a.drop 0).take (gu (Y7 a) m-0)=_);refine I lF ?_;rfl
 exact bQ _ rfl J (cL (λQ z=>q.BP J _ (Ev.lo J _ (dO _ _ (.list (l:=ax) (u:=ae m) g J J (I e (az w.uE (ac J)))) z))) (f.1.at J J J) (Pa.BU (t:=s.hd) (bH i) J) (k _ h.length ⟨(f.1.Qt {s.hd with sn:=h.length,n:=min m s.hd.n} x J J (bQ (a.take (min m (Y7 a))) (I (aQ B) lk) (by refine I bE (I e (?_ :min (min m s.hd.n) s.hd.n=min m s.hd.n));exact Vi) (λv z=>r.keep (λn C g=>bH g) (aE _) v (Qd z))) (az (d9 _ _) w.uE) ⟨j4 i,aM w.jr λp A p=>fM (j4 A)⟩),λk o g m=>cB (bH g) λe=>m (.inr (.inr (aW _ (.head _) (.inl e.symm)))),λk y=>B1 λb=> .inr (.inr (aW _ (.head _) (by
  rcases b with b|b|b
  ·exact .inl b
  ·exact cq b (cr y)
  ·exact .inr (.inr b)))),I bC (I au (cH _ _))⟩))
end
def vm(h:H)(c:ag V):Prop:=∀v∈c,∃(t:D) (a b:V),v= .ref t/\h[t]? =ae (.bq [a,b])
section
variable{c:Pc}{s s₀:St}{h u h₀:H}{n:D}{X:Prop}{Q:P1}{L:bS}{o:ag (D×O)}
noncomputable def St.ql(s:St)(j:D):St:={s with made:=s.made+j,hd:={s.hd with n:=s.hd.n+j}}
theorem IV{nl f:D}{s:ag V}(l0:(Y7 h₀)<=f)(fn:f≠nl)(k:∀h x,Pz c s₀ h₀ [(f,.list x),(nl,.list s)] (s₀.ql (Y7 s)) h->Y7 x=Y7 s->vm h x->Q (.ref f) h):
  ∀(w:ag V) (j i:D) (v:av V) (h:H) (x:ag V),Pz c s₀ h₀ [(f,.list x),(nl,.list s)] (s₀.ql j) h->j+Y7 w=Y7 s->Y7 x=j->vm h x->(∀v∈w,∃b,v= .bytes b)->s₀.hd.n+Y7 s<=200->s₀.made+Y7 s<=59->
  Ah (Cn X n).K (.ref nl) s (λB v L=>cD (Cn X n) [.jC (.cj .GtE (.ca (.c (.bi 0)) [.at (.at (.l 0) 54) 48]) (.at (.at (.l 0) 15) 3)) [.ex (.me (.l 0) 63 [.at (.at (.l 0) 15) 3,.c (.bytes [108,111,99,97,108,32,118,97,114,105,97,98,108,101,115])])] [],.ex (.me (.l 2) 1000 [.bq [.l 3,.at (.l 0) 56]]),.ex (.me (.at (.at (.l 0) 54) 48) 1000 [.bq [.l 3,.at (.l 0) 56]]),.v7 (.l 0) 56 .Add (.c (.int 1))] (cx L 3 v)) (sq (Cn X n) (WR.drop 2) (rt Q)) w i [some (.ref c.P),some (.ref nl),some (.ref f),v] h:=by
 intro w
 induction w with
 |nil=>exact λj i v h x q z T t B B B=>⟨q.get (.tail _ (.head _)),cJ (.lo J) (k h x (I (aQ (z)) q) (T.trans z) t)⟩
 |cons v r ih=>
  intro j i v0 h x q z T t N Z R
  rw[bv] at z
  refine cs (N v (.head _)) λb W=>?_;revert N;refine I W λN=>?_
  refine⟨q.get (.tail _ (.head _)),bm (bj (q.ps.yZ J) (q.ps.dW (v:= .int 200) J J J) (aL some (aO (ri 0x38ae8003ae052e814a020f00a8a09040 J z Z)))) ?_⟩
  have S:=q.get (.head _)
  have G:=(q.push (.bq [.bytes b,.int ((s₀.made+j:D):aF)])).wZ (ys:=x++[.ref h.length]) l0 λp m=>I (ao.mp m) fn
  refine ia (.vV (.lo J) (.list S (.inl J)) (.cons (.bq (.cons (.lo J) (.cons ((q.ps.at J J J):Ev (Cn X n) (.at (.l 0) 56) [some (.ref c.P),some (.ref nl),some (.ref f),some (.bytes b)] h (.int ((s₀.made+j:D):aF)) h) .nil))) .nil) (.ii (bH S) (by refine I T ?_;exact ri 0xd5889e80902e8cba020f00a8a09040 J z R)) (aa J)) ?_
  generalize e4:(h++[O.bq [.bytes b,.int ((s₀.made+j:D):aF)]]).set f (.list (x++[.ref h.length]))=y at*
  have E:=G.push (.bq [.bytes b,.int ((s₀.made+j:D):aF)])
  refine uS E.ps.hd λB F B C ey B=>uS G.ps.hd λB A B M af B=>?_
  have e5:A=F:=by rw[bH M] at C;cases C;rfl
  change(y++_)[s₀.hd.sn]? =_ at C
  have s4:=E.to (E.ps.Jl (s₀.ql j).d ((s₀.ql j).made+1) (dR _) (by refine(?_ :s₀.made+j+1<=59);exact ri 0x358cba09a000ee8cba020f00a8a09040 J z R))
  have Y:c.P≠s₀.hd.sn:=λe=>by have:=E.ps.mH;rw[e,C] at this;cases this
  have s5:Pz c s₀ h₀ [(f,.list (x++[V.ref h.length])),(nl,.list s)] (s₀.ql (j+1)) (((y++[O.bq [.bytes b,.int ((s₀.made+j:D):aF)]]).set c.P (.inst 9 (xa c (.ref s₀.hd.r) s₀.d (s₀.made+j+1)))).set s₀.hd.sn (.list (F++[.ref (Y7 y)]))):=s4.to (s4.ps.Re (vs:=[.ref (Y7 y)]) (cB C Y) (λv m=>(uR (Y7 y) b ((s₀.made+j:D):aF) (ao.mp m) (iy (o₀:= .inst 9 (xa c (.ref s₀.hd.r) s₀.d (s₀.made+j))) E.ps.mH nofun lk) (by refine(?_ :((s₀.made+j:D):aF)<((s₀.made+j+1:D):aF));exact dw 0x36ae8268040ae8040 J) (.inl (bN _)))) (by refine(?_ :s₀.hd.n+j+1<=200);exact ri 0x35814a09a000ee814a020f00a8a09040 J z Z))
  rw[List.set_comm _ _ Y] at s5
  refine ia (.vV (G.ps.BP J) (.list M (.inl J)) (.cons (.bq (.cons (.lo J) (.cons (G.ps.at J J J) .nil))) .nil) (.ii C (I (aQ e5) (I af (az G.ps.tw.1.uE (ac J))))) (aa J)) ?_
  have U:(((y++[O.bq [.bytes b,.int ((s₀.made+j:D):aF)]]).set s₀.hd.sn (.list (F++[.ref (Y7 y)]))))[c.P]? =some (.inst 9 (xa c (.ref s₀.hd.r) s₀.d (s₀.made+j))):=cB E.ps.mH Y.symm
  refine ub (.lo J) (.i U J J) .co (nT ((s₀.made+j:D):aF) 1 J J (jt (dU (ri 0xd5889e809a000ee8cba020f00a8a09040 J z R)) J)) (.i U J (by refine(?_ :5<=900);exact ac J)) (ih (j+1) (i+1) _ _ _ s5 (gC 0x370a8068240c02a28241034 J z) (I au (I T J)) (λv m=>?_) (λv m=>N v (.tail _ m)) Z R)
  have kt:∀{m:D} {A:ag V},y[m]? =some (.bq A)->((List.set (y++[O.bq [.bytes b,.int ((s₀.made+j:D):aF)]]) s₀.hd.sn (.list (F++[.ref (Y7 y)]))).set c.P (.inst 9 (xa c (.ref s₀.hd.r) s₀.d (s₀.made+j+1))))[m]? =some (.bq A):=λg=>iy U nofun (iy C nofun (bH g))
  rcases dH.mp m with m|m
  ·exact wW (t v m) λt' a b' e g=>oK t' a b' e (kt (e4▸iy (bH S) nofun (bH g)))
  ·exact oK _ _ _ (ao.mp m) (kt (e4▸cB lk (cr (j4 S))))
theorem pZ{a:D}{names:ag V}(q:Pa c s h)(g:h[a]? =ae (.list names))(r:¬Mu c s a)(t:∀v∈names,∃b,v= .bytes b)(l:s.hd.n+Y7 names<=200)(m:s.made+Y7 names<=59)
  (k:∀u f d,Sp c s h (s.ql (Y7 names)) u->h.length<=f->u[f]? =ae (.list d)->¬Mu c s f->Y7 d=Y7 names->vm u d->Q (.ref f) u):P.call am X (n+1) (.fn 61) [.ref c.P,.ref a] Q h:=by
 have j:=((⟨q,.refl,λp m=>I (ao.mp m) (⟨g,r⟩)⟩):Pz c s h [(a,.list names)] s h).new (.list []);refine bQ _ rfl J (cZ (.eS .nil) ((Ev.lo (i:=1) J) _ ⟨names,IV (s₀:=s) (h₀:=h) (f:=h.length) (nl:=a) (aE _) (fM (j4 g)) (λu d e x w=>k u h.length d e.sp (aE _) (e.get (.head _)) (λz=>kF _ (q.Wq z)) x w) names 0 0 _ _ [] j (tE _) J nofun t l m⟩))
end
theorem gg{h r:H}{c a:D}{fs:ag (D×V)}{v:V}(f:P.fld c a=am)(l:(Y7 fs)<=900):qh P.fld ((h++[.inst c fs])++r) (.ref h.length) a v ((h++[.inst c (setField a v fs)])++r):=(tU h.length c fs J (by refine I (bF (I au (dc _))) ?_;exact lk) f l (I (List.set_append_left _ _ (I au (dc _))) (I vv J)))
section
variable{c:Pc}{s:St}{h p:H}{n:D}{X:Prop}{Q:P1}{L:bS}
theorem xH{o l:V}:Nw X (n+2) 6 [o,l] h ((h++[.inst 6 [(47,o),(19,l),(48,.ref (h.length+1)),(49,.int (0:D)),(50,.ref (h.length+2)),(51,.bool ai),(52,.bool ai)]])++[.list [],.list []]):=λQ q=>by
 have c:∀{a:O},(h++[a]).length=h.length+1:=λ{a}=>I au J;have d:∀{a b:O},((h++[a])++[b]).length=h.length+2:=λ{a b}=>I au (I c J);refine dO 47 ([]) J (bQ _ rfl J (cL (.lo J) (.lo J) (eV J (bU _)) (cL (.lo J) (.lo J) (eV J (by refine(?_ :1<=900);exact ac J)) (cL (.eS .nil) (.lo J) (gg (r:=[.list []]) J (by refine(?_ :2<=900);exact ac J)) (cL .co (.lo J) (gg (r:=[.list []]) J (by refine(?_ :3<=900);exact ac J)) (cL (.eS .nil) (.lo J) (I (a7 ..) (gg (r:=[.list [],.list []]) J (by refine(?_ :4<=900);exact ac J))) (cL .co (.lo J) (gg (r:=[.list [],.list []]) J (by refine(?_ :5<=900);exact ac J)) (cL .co (.lo J) (gg (r:=[.list [],.list []]) J (by refine(?_ :6<=900);exact ac J)) ⟨rfl,?_⟩))))))));exact I c (I d q)
noncomputable def St.sub(s:St)(h:H)(a:aF):St:={s with hd:=⟨h.length,h.length+1,h.length+2,a,0,false,0⟩,cS:=s.hd::s.cS}
theorem Pa.Qs(q:Pa c s h){t:Sc}{o:ag Sc}(w:Tw h s.made c.B (t::o))(f:o.length<=100):Pa c {s with hd:=t,cS:=o} (h.set c.P (.inst 9 (xa c (.ref t.r) s.d s.made))):=by
 refine cs q.gO λx i=>?_;have b:∀{m:D} {o:O} {z:O},(∀j,o≠.inst 9 j)->h[m]? =ae o->(h.set c.P z)[m]? =ae o:=λz g=>iy q.mH (z _) g;exact⟨q.ok,fF q.mH,b (λa z=>nomatch z) q.lm,b (λa z=>nomatch z) q.kd,⟨x,i.keep (λo g=>cB g q.lt.2.2) (λa a=>b λa z=>nomatch z) (λa a=>b λa z=>nomatch z) J J J⟩,w.under (aE _) (.inr q.lt.1) q.mH (λa z=>nomatch z),q.made,q.lt,q.pE,f⟩
theorem Rr{x:E}{d:aF}{u:ag S}{R:PS}(q:Pa c s h)(v:L[0]? =ae (ae (.ref c.P)))(a:Ev (Cn X (n+2)) x L h (.int d) h)(A:s.cS.length<100)(k:∀p,Sp c s h (s.sub h d) p->cD (Cn X (n+2)) u L R p):cD (Cn X (n+2)) (.as (.at (.l 0) 54) (.ca (.c (.cls 6)) [.at (.l 0) 54,x])::u) L R h:=by
 have y:∀{m:D} {o:O} {z:H},h[m]? =ae o->(h++z)[m]? =ae o:=λg=>by refine I (bF (j4 g)) ?_;exact g
 have f:Pa c s ((h++[.inst 6 [(47,.ref s.hd.r),(19,.int d),(48,.ref (h.length+1)),(49,.int (0:D)),(50,.ref (h.length+2)),(51,.bool ai),(52,.bool ai)]])++[.list [],.list []]):=q.kp λm o g=>y (z:=[_]) g|>λg=>by refine I (bF (j4 g)) ?_;exact g
 have b:∀(j:D) (o:O),([O.inst 6 [(47,.ref s.hd.r),(19,.int d),(48,.ref (h.length+1)),(49,.int (0:D)),(50,.ref (h.length+2)),(51,.bool ai),(52,.bool ai)],.list [],.list []]:ag O)[j]? =ae o->((h++[O.inst 6 [(47,.ref s.hd.r),(19,.int d),(48,.ref (h.length+1)),(49,.int (0:D)),(50,.ref (h.length+2)),(51,.bool ai),(52,.bool ai)]])++[.list [],.list []])[h.length+j]? =ae o:=λj o g=>by
  refine I (a7 ..) (I (cF (cH _ _)) ?_);exact I (cV ..) g
 refine cL (.cls (.cons (q.at v J J) (.cons a .nil)) xH) (.lo v) (.i f.mH J (by refine(?_ :5<=900);exact ac J)) (k _ ⟨f.Qs (t:=(s.sub h d).hd) (o:=s.hd::s.cS) (bX ⟨⟨ai,b 0 _ rfl⟩,(bQ ([]) (b 1 _ rfl) J nofun),bU _,(bQ ([]) (b 2 _ rfl) .nil nofun),dc _,by refine(?_ :h.length<h.length+2);exact bO 0x36a0a000 J,by refine(?_ :h.length+1≠h.length+2);exact bO 0xea8280a09034 J⟩ ?_ f.tw) A,?_⟩)
 ·refine(?_ :max _ _+1<=h.length);have:=j4 q.tw.1.seen.choose_spec.1;have:=j4 q.tw.1.jr.choose_spec.1;omega
 ·refine⟨λk o g m=>cB (y (z:=[_]) g|>λg=>by refine I (bF (j4 g)) ?_;exact g) λe=>m (.inl e.symm),λk l m=>?_,I bC (I au (I au (gC 0x35a02a01000 J)))⟩;rcases m with m|m|⟨t,m,w⟩
  ·exact .inl m
  ·exact .inr (.inl m)
  ·rcases aZ.mp m with rfl|m
   ·exact Vh l w
   ·exact .inr (.inr (aW t m w))
theorem Rq{t:Sc}{o:ag Sc}{a:ag S}{R:PS}(q:Pa c s h)(d:L[0]? =ae (ae (.ref c.P)))(e:s.cS=t::o)(k:∀p,Sp c s h {s with hd:=t,cS:=o} p->cD (Cn X n) a L R p):cD (Cn X n) (.as (.at (.l 0) 54) (.at (.at (.l 0) 54) 47)::a) L R h:=by
 have w:=q.tw.2.2;rw[e] at w;refine cL (v:= .ref t.r) (q.sc d J λx=>I e J) (.lo d) (.i q.mH J (by refine(?_ :5<=900);exact ac J)) (k _ ⟨q.Qs w (by have:=q.zA;rw[e] at this;exact Nat.le_of_succ_le this),λk o g m=>cB g λe=>m (.inl e.symm),λk u m=>?_,I bC (aE _)⟩);rcases m with m|m|⟨f,m,j⟩
 ·exact .inl m
 ·exact .inr (.inl m)
 ·exact .inr (.inr (aW f (.tail _ (I e m)) j))
end
theorem TH:∀(m:D) (b:ag D),b.Nodup->(∀k∈b,k<m)->Y7 b<=m:=by
 intro c;induction c with
 |zero=>
  intro b l f;cases b with
  |nil=>exact aE _
  |cons a r=>exact cq (f a (.head _)) (oD _)
 |succ m i=>
  intro b h f;by_cases j:m∈b
  ·have:=i (b.erase m) (h.erase m) λk g=>by
    have:=(h.mem_erase_iff).mp g;exact Vv ‹k≠m/\k∈b› (f k this.2)
   rw[List.length_erase_of_mem j] at this;exact Vu this
  ·exact zV (i b h λk g=>by
    have:=f k g;exact Vt ‹k<m+1› ((λe=>j (e▸g)):k≠m))
theorem zC{α:Type}{a:ag α}{i:D}{v:α}(g:a[i]? =ae v):i<(Y7 a):=(aY.mp g).1
theorem fJ{k n:D}(l:k<n)(a:n<=dW):Az (k:aF) n=ae k:=by
 unfold Az;exact dG a (dG (bN k) (dG (l) J))
section
variable{c:Pc}{s:St}{h d:H}{n made B:D}{X:Prop}{Q:P1}{L:bS}{t:Sc}
theorem Tw.mem:∀{b:ag Sc},Tw h made B b->t∈b->∃o,HI h made (wg o) t/\∃i,b=i++t::o:=by
 intro b;induction b with
 |nil=>exact λg m=>nomatch m
 |cons x r f=>
  intro q m;rcases aZ.mp m with rfl|m
  ·exact aW r q.1 ⟨[],rfl⟩
  ·refine aM (f q.2.2 m) λo a c=>cs c λi e=>?_;exact aW o a ⟨_::i,I e J⟩
theorem Tw.jr{z:O}{l:ag V}(g:h[t.bo]? =ae (.list l))(b:uo (h.set t.bo z) made t.bo):∀{f:ag Sc},Tw h made B f->t∈f->Tw (h.set t.bo z) made B f:=by
 intro f;induction f with
 |nil=>exact λj m=>nomatch m
 |cons u r F=>
  intro q m;refine i7 q λa i w=>?_;have p:∀{m:D} {o:O},(∀l,o≠.list l)->h[m]? =ae o->(h.set t.bo z)[m]? =ae o:=λa s=>iy g (a _) s;have C:∀(n:D) k,h[n]? =ae (.bq k)->(h.set t.bo z)[n]? =ae (.bq k):=λn k=>p λj z=>nomatch z;refine cs a.at_ λy ga=>kh a.seen λv E e x=>?_;have c:=a.lt;rcases aZ.mp m with rfl|m
  ·exact bX ⟨⟨y,p (λj z=>nomatch z) ga⟩,(bQ v (cB E c.2.2.symm) e (x.keep C (aE _))),a.uE,b,c⟩ i (w.under (aE _) (.inl (az i (fh c.2.1))) g λj z=>nomatch z)
  ·have A:=(w.lo.2 t m _ (.inr (.inr J))).2.1;exact bX ⟨⟨y,p (λj z=>nomatch z) ga⟩,(bQ v (cB E (ri 0x3a083d2f003bc206e040 J i c.1 A)) e (x.keep C (aE _))),a.uE,a.jr.keep (aE _) λo s=>cB s (ri 0x3a083d2f003bc206e040 J i c.2.1 A),c⟩ i (F w m)
theorem OY{o:V}(w:HI h made o t){a:ag D}(F:a.head?≠some 40)(E:Q .none h)(u:∀k:D,k<made->Q (.int k) h):P.call am X (n+1) (.fn 48) [.ref t.r,.bytes a] Q h:=by
 refine cs w.at_ λY ga=>kh w.seen λf A e C=>?_
 have y:(Y7 f)<=dW:=by refine I e ?_;exact az w.uE (ac J)
 have G:=w.uE
 have q:∀{L:bS},L[0]? =some (some (.ref t.r))->Ev (Cn X n) (.at (.l 0) 48) L h (.ref t.sn) h:=λH=> .at (.lo H) (.i ga J J)
 refine bQ _ rfl J (cZ (.dy (.bi (.cons (q J) .nil) (nD.list A y)) .co (.int (mJ (dU (dw 0xd5889e80902e814070040 J e G)) J))) (oY (λm B d=>B=[some (.ref t.r),some (.bytes a),some (.int ((m:aF)-1))]/\d=h/\m<=Y7 f) (Y7 f) (bX J J (aE _)) λm B d ⟨T,S,x⟩=>?_))
 subst T S
 refine dO (decide (((m:aF)-1)≥0)) _ (.cj (.lo J) .co (.int J)) ?_
 cases m with
 |zero=>
  exact cM (aa J) (cJ .co E)
 |succ j=>
  refine I (bO 0xdeb02aac9ae8240 J) (I (aR (bN j)) (dG J (DU (C _ (dh (l:=f) (n:=j) x)) λW p k R O b z=>?_)))
  have s:∀{i:D} {v:V},[V.bytes p,.int k][i]? =some v->Ev (Cn X n) (.sub (.sub (.at (.l 0) 48) (.l 2)) (.c (.int i))) [some (.ref t.r),some (.bytes a),some (.int j)] d v d:=λ{i v} g=> .sub (.sub (q J) (.lo J) (.list A (fJ x y) ((aI (dw 0xd8102e068240 J ‹[some (V.ref t.r),some (V.bytes a),some (V.int (↑(j+1)-1))]=[some (V.ref t.r),some (V.bytes a),some (V.int (↑(j+1)-1))]/\d=d/\j+1<=(Y7 f)›.2.2)).trans (aL some R)))) .co (.bq O (fJ (zC g) (by refine(?_ :2<=dW);exact ac J)) g)
  refine m8 (t:=p==a) (.cj (s (i:=0) J) (.lo J) .bytes) (λN=>?_) λU=>?_
  ·have K:=z.resolve_right λz=>F ((a6.mp N)▸z)
   revert b s;refine gF k (Mf K) λM=>λb s=>?_
   exact cJ (s (i:=1) J) (u M (f8.mp b))
  ·exact FM J .co (nT j 1 J J (mJ (dU (by lia)) J)) (Mj j (dc _) J J (by lia))
end
def eD(h:H)(v:V)(a:ag D):Prop:=∃n l p,v= .ref n/\h[n]? =ae (.inst 5 [(12,.str a),(19,l),(46,p)])
theorem eD.i{h:H}{n:D}{a:ag D}{l p:V}(g:h[n]? =ae (.inst 5 [(12,.str a),(19,l),(46,p)])):eD h (.ref n) a:=⟨n,l,p,rfl,g⟩
section
variable{c:Pc}{s A:St}{h y C:H}{n:D}{X:Prop}{Q:P1}{L:bS}{f:ag (D×O)}
theorem LB{K:jR}{i m:D}{b:ag D}(g:h[m]? =ae (.list (b.map λ(k:D)=>V.int k))):Br K h (.int i) (.ref m) (decide (i∈b)):=by
 have a:js (.int i) (b.map λ(k:D)=>V.int k)=am:=by
  unfold js
  refine I lT ?_
  exact aS.mpr λc c=>rfl
 have e:uI (.int i) (b.map λ(k:D)=>V.int k)=decide (i∈b):=by
  unfold uI
  refine I tI ?_;rewrite[hU,mS,fw]
  refine⟨λ⟨k,n,j⟩=>?_,λd=>(aW i d ?_)⟩
  ·have l:=a6.mp j|>aT;rwa [nF (a6.mp l)]
  ·refine(?_ :(ae ((i:aF)==(i:aF))==ae am)=am);exact I (fW ..) J
 exact e▸.seq (.inl g) a
theorem Pa.VZ(q:Pa c s h){t:Sc}(m:t∈s.hd::s.cS){n:ag D}{i:D}(g:h[t.bo]? =ae (.list (n.map λ(k:D)=>V.int k)))(w:n.Nodup)(lt:∀k∈n,k<s.made)(v:i∉n)(G:i<s.made):Sp c s h s (h.set t.bo (.list (n.map (λ(k:D)=>V.int k)++[.int i]))):=by
 refine cs q.gO λx u=>?_;have p:∀{m:D} {o z:O},(∀l,o≠.list l)->h[m]? =ae o->(h.set t.bo z)[m]? =ae o:=λa j=>iy g (a _) j;refine⟨⟨q.ok,p (λd z=>nomatch z) q.mH,p (λd z=>nomatch z) q.lm,p (λd z=>nomatch z) q.kd,⟨x,u.keep (λo j=>iy g (by rw[u.gO] at j;refine sb (si j) ?_;nofun) j) (λd d=>p λd z=>nomatch z) (λd d=>p λd z=>nomatch z) J J J⟩,q.tw.jr g (bQ (n++[i]) (by rewrite[fj];exact fF g) (zY.mpr (bX w (jm.mpr ⟨fX,.nil⟩) (λa F b E e=>v (by rewrite[<-ao.mp E,<-e];exact F)))) (λk r=>?_)) m,q.made,q.lt,q.pE,q.zA⟩,
  λk o j B=>cB j λe=>B (.inr (.inr (aW t m (.inr (.inr e.symm))))),λk d z=>z,by rewrite[bC];exact aE _⟩;rcases dH.mp r with r|r
 ·exact lt k r
 ·exact I (ao.mp r) G
theorem Ip{m i:D}{a:ag Sc}(q:Pa c s h)(g:h[m]? =some (.list (a.map λt=>V.ref t.r)))(T:¬Mu c s m)(ch:∀t∈a,t∈s.hd::s.cS)(U:i<s.made)(u:a.length<=1000)(k:∀y,Sp c s h s y->Q .none y):P.call am X (n+1) (.fn 65) [.ref c.P,.ref m,.int i] Q h:=by
 have K:(a.map λt=>V.ref t.r).length<=dW:=by refine I (aH ..) ?_;exact az u (ac J)
 refine bQ _ rfl J (cZ (q.at J J J) (cZ (v:= .int ((a.length:aF)-1)) (.dy (.bi (.cons (.lo J) .nil) (nD.list g K)) .co (.int (I (aH ..) (mJ (dU (bO 0xd5889e80902e8262c0 J u)) J)))) (oY (λj R y=>R=[some (.ref c.P),some (.ref m),some (.int i),some (.ref s.hd.r),some (.int ((j:aF)-1))]/\Pz c s h [(m,.list (a.map λt=>V.ref t.r))] s y/\j<=a.length) a.length (bX J (⟨q,.refl,λp z=>I (ao.mp z) (⟨g,T⟩)⟩) (aE _)) λj R y ⟨W,b,M⟩=>?_)))
 subst W
 refine dO (decide (((j:aF)-1)≥0)) _ (.cj (.lo J) .co (.int J)) ?_
 induction j with
 |zero=>
  exact cM (aa J) (cL (.lo J) (.lo J) (b.ps.Nm J J) (k _ (b.to (b.ps.Jl s.d s.made (aE _) q.made)).sp))
 |succ j=>
  refine I (bO 0xdeb02aac9ae8240 J) (I (aR (bN j)) (dG J ?_))
  have x:=M
  refine aM (b.ps.tw.mem (ch _ (dh x))) λo w S=>cs w.at_ λY ga=>kh w.jr λL e G H=>?_
  have E:=TH _ L G H
  have B:=q.made
  have F:Ev (Cn X n) (.at (.sub (.l 1) (.l 4)) 50) [some (.ref c.P),some (.ref m),some (.int i),some (.ref s.hd.r),some (.int j)] y (.ref a[j].bo) y:= .at (.sub (.lo J) (.lo J) (.list (b.get (.head _)) (fJ (I (aH ..) x) K) (by refine I (dL) ?_;refine I (aI x) ?_;rfl))) (.i ga J J)
  refine m8 (t:= !decide (i∈L)) (.cj (.lo J) F (.MO (LB e))) (λN=>?_) λS=>FM J .co (nT j 1 J J (mJ (dU (dw 0x356227a0241b80a0906e8262c0 J u M)) J)) (Mj j (dc _) J b (by lia))
  exact bm (bj (.bi (.cons F .nil) (nD.list e (by refine I (aH ..) ?_;exact dw 0xd5889e80902e8cb06e040 J E B))) (b.ps.dW (v:= .int 60) J J J) (aL some (aO (I (aH ..) (dw 0x38ac0ae42ee8cb06e040 J E B))))) (ia (.vV F (.list e (.inl J)) (.cons (.lo J) .nil) (.ii e (by refine I (aH ..) ?_;exact dw 0xd5889e80902e8cb06e040 J E B)) (aa J)) (FM J .co (nT j 1 J J (mJ (dU (dw 0x356227a0241b80a0906e8262c0 J u ‹[some (V.ref c.P),some (V.ref m),some (V.int ↑i),some (V.ref s.hd.r),some (V.int (↑(j+1)-1))]=[some (V.ref c.P),some (V.ref m),some (V.int ↑i),some (V.ref s.hd.r),some (V.int (↑(j+1)-1))]/\Pz c s h [(m,O.list (List.map (λt=>V.ref t.r) a))] s y/\j+1<=a.length›.2.2)) J)) (Mj j (dc _) J (b.to (b.ps.VZ (ch _ (dh x)) e G H (λz=>by rw[aR z] at N;exact ft N) U)) (by lia))))
theorem Tw.drop{a B:D}{t:Sc}{r:ag Sc}:∀(i:D) {b:ag Sc},Tw h a B b->b.drop i=t::r->HI h a (wg r) t:=by
 intro i;induction i with
 |zero=>
  intro b w e;rw[show b=t::r from e] at w;exact w.1
 |succ i c=>
  intro b w e;cases b with
  |nil=>cases e
  |cons u b=>exact c w.2.2 e
theorem MI{e:ag D}{p:V}(q:Pa c s h)(E:e.head?≠some 40)(k:∀v y,Sp c s h s y->(eD y v [108,111,99,97,108]\/eD y v [103,108,111,98,97,108])->Q v y):P.call am X (n+3) (.fn 64) [.ref c.P,.bytes e,p] Q h:=by
 refine bQ _ rfl J (pY (.bq (.cons (.eS .nil) (.cons ((q.pz.new (.list [])).ps.at J J J) .nil))) lk J (oY (λj x y=>∃v,x=[some (.ref c.P),some (.bytes e),some p,some (.ref h.length),some (wg ((s.hd::s.cS).drop (s.cS.length+1-j))),v]/\j<=s.cS.length+1/\Pz c s h [(h.length,.list (((s.hd::s.cS).take (s.cS.length+1-j)).map λt=>V.ref t.r))] s y) (s.cS.length+1) (bQ ax (I (je ..) J) (aE _) (I (je ..) ((q.pz.new (.list [])).push (.bq [.ref h.length,.ref s.hd.r])))) λj x y ⟨v,b,F,a⟩=>?_))
 subst b
 induction j with
 |zero=>
  refine dO ai _ (my (v:= .none) (.lo (I (eN (I (rfl:(s.hd::s.cS).length=s.cS.length+1) (aE _))) J)) J) (cM aC (cJ (.cls (.cons .co (.cons (.lo J) (.cons (.eS (.cons (.lo J) .nil)) .nil))) ci) (k _ _ ((a.push _).push _).sp (.inr (.i lk)))))
 |succ j=>
  have u:s.cS.length-j<(s.hd::s.cS).length:=zU (jJ _ _)
  have G:s.cS.length+1-(j+1)=s.cS.length-j:=Vs
  have b:s.cS.length+1-j=s.cS.length-j+1:=Nat.succ_sub (Nat.le_of_succ_le_succ F)
  rw[G] at a⊢
  have B:((s.hd::s.cS).take (s.cS.length+1-j)).map (λt=>V.ref t.r)=((s.hd::s.cS).take (s.cS.length-j)).map (λt=>V.ref t.r)++[V.ref (s.hd::s.cS)[s.cS.length-j].r]:=by
   refine I b ?_;refine I zX ?_;refine I (aI u) ?_;refine I fj ?_;rfl
  have l:=dS u
  have w:=a.ps.tw.drop _ l
  rw[<-b] at l w
  generalize(s.hd::s.cS)[s.cS.length-j]=t at*
  refine I l ?_
  have o:((s.hd::s.cS).take (s.cS.length-j)).length<=1000:=by refine I bE ?_;exact dw 0xd6098b06e70e02e001 J (az (fP _ _) (jJ _ _)) q.zA
  refine cs w.at_ λH ga=>?_
  have d:=a.get (.head _)
  refine dO am y (my (v:= .ref t.r) (.lo J) J) (dG J (s9 (.lo J) (.i ga J J) (.cons (.lo J) .nil) (OY (n:=n+1) w E (bm (my (.lo J) J) ?_) λK g=>bT (my (.lo J) J) ?_) (ac J)))
  ·exact ia (.vV (.lo J) (.list d (.inl J)) (.cons (.lo J) .nil) (.ii d (I (aH ..) (az o (ac J)))) (aa J)) (cZ (.at (.lo J) (.i (iy d nofun ga) J J)) ⟨j,dc _,_,rfl,Vr b,I B (a.wZ (ys:=((s.hd::s.cS).take (s.cS.length-j)).map (λt=>V.ref t.r)++[.ref t.r]) (aE _) nofun)⟩)
  ·exact a.ps.me (n:=n+2) J J J (.cons (.lo J) (.cons (.lo J) .nil)) (Ip (n:=n+1) a.ps d (a.pv _ (.head _)).2 (λt m=>Qd m) g o λL z=>cJ (.cls (.cons .co (.cons (.lo J) (.cons (.eS (.cons (.lo J) (.cons (.lo J) .nil))) .nil))) ci) (k _ _ (((a.to z).push _).push _).sp (.inl (.i lk)))) (ac J)
end
noncomputable abbrev gx(c:Pc):Gx:=⟨c.K,c.aw.length⟩
noncomputable def wD(k:aF):aF:=if k∈[40,123,91,265,259,266,272] then 2 else if k∈[41,125,93,262,276] then-2 else if k∈[43,45,278,280,270,35,44] then 1 else 0
noncomputable def wM(k:aF):aF:=if k=264 then 4 else if k∈[268,44,265,58] then 1 else 0
noncomputable def Pc.sD(c:Pc):D->aF
 |0=>0
 |i+1=>c.sD i+wD (c.K i)
noncomputable def Pc.sM(c:Pc):D->aF
 |0=>0
 |i+1=>c.sM i+wM (c.K i)
structure CW(c:Pc):Prop where
 d:∀i,c.sD i<=37
 m:∀i,c.sM i<=56
structure Sy(c:Pc)(B:D->aD)(s:St):Prop where
 iR:s.la=am->c.K s.i=285/\B (s.i+1)=ai
 rest:∀k,s.rd<=k->B k=bh c.aw k
def Nr(c:Pc)(B:D->aD)(s:St):Prop:=s.eY=c.ln s↔B s.i=ai
structure i9(c:Pc)(B:D->aD)(f:Fg)(m:aF)(s:St):Prop where
 sy:Sy c B s
 va:f.va=s.hd.va
 d:m<=c.sD s.i-s.d
 b:s.made<=c.sM s.i
 n:s.hd.n<=c.sM s.i
 o:s.cS.length<s.d
 l:s.hd.dB<=s.i
structure fZ(c:Pc)(B:D->aD)(s v:St)(a b e:aF):Prop where
 d:v.d=s.d
 lp:v.hd.dB=s.hd.dB
 va:v.hd.va=s.hd.va
 cS:v.cS=s.cS
 sy:Sy c B v
 le:s.i<=v.i
 ca:c.sD s.i-s.d+a<=c.sD v.i-v.d
 cb:c.sM s.i-s.made+b<=c.sM v.i-v.made
 ce:c.sM s.i-s.hd.n+e<=c.sM v.i-v.hd.n
section
variable{c:Pc}{B:D->aD}{f:Fg}{s v A:St}{a b e a' b' e' m C:aF}
theorem IB(i:D):oO c.aw (i+1)=oO c.aw i↔bh c.aw i=ai:=by
 unfold bh;cases h:c.aw[i]? with
 |none=>
  have:=Je.mp h;refine⟨λa=>rfl,λa=>?_⟩;unfold oO;exact I (bK this) (I (bK (zV this)) J)
 |some r=>
  refine I (Do h) (?_ :_↔r.2=ai);cases r.2
  ·exact⟨λa=>rfl,λa=>dT _⟩
  ·exact⟨λz=>by rw[cw J] at z;exact VN z,nofun⟩
theorem Nr.next(y:Sy c B s):Nr c B (c.next s):=by
 refine(?_ :c.ln s=oO c.aw (s.i+2)↔B (s.i+1)=ai);unfold Pc.ln St.rd;cases h:s.la with
 |true=>exact⟨λa=>(y.iR h).2,λa=>rfl⟩
 |false=>
  refine cM aC (I (y.rest (s.i+1) (by unfold St.rd;exact I h (aE _))) ?_);rewrite[<-IB (c:=c) (s.i+1)];exact eq_comm
theorem Sy.next(y:Sy c B s):Sy c B (c.next s):=⟨nofun,λk l=>y.rest k (by have l:s.i+2<=k:=l;unfold St.rd;split<;>lia)⟩
theorem fZ.refl(y:Sy c B s):fZ c B s s 0 0 0:=⟨rfl,rfl,rfl,rfl,y,aE _,mN 0xd6aac0068ac8aab001 J,mN 0xd6aac0068ac8aab001 J,mN 0xd6aac0068ac8aab001 J⟩
theorem fZ.trans(x:fZ c B s v a b e)(y:fZ c B v A a' b' e'):fZ c B s A (a+a') (b+b') (e+e'):=
 have:=x.ca;have:=y.ca;have:=x.cb;have:=y.cb;have:=x.ce;have:=y.ce
 ⟨y.d.trans x.d,y.lp.trans x.lp,y.va.trans x.va,y.cS.trans x.cS,y.sy,az x.le y.le,NI ‹c.sD s.i-↑s.d+a<=c.sD v.i-↑v.d› ‹c.sD v.i-↑v.d+a'<=c.sD A.i-↑A.d›,NI ‹c.sM s.i-↑s.made+b<=c.sM v.i-↑v.made› ‹c.sM v.i-↑v.made+b'<=c.sM A.i-↑A.made›,NI ‹c.sM s.i-↑s.hd.n+e<=c.sM v.i-↑v.hd.n› this⟩
theorem fZ.nh(x:fZ c B s v a b e)(g:a'<=a)(f:b'<=b)(d:e'<=e):fZ c B s v a' b' e':={x with ca:=Tz 0x35aab045a02aab004baaac11680eaac012e0c2 J g x.ca,cb:=Tz 0x35aab045a02aab004baaac11680eaac012e0c2 J f x.cb,ce:=Tz 0x35aab045a02aab004baaac11680eaac012e0c2 J d x.ce}
theorem fZ.next{k:aF}(y:Sy c B s)(h:c.K s.i=k):fZ c B s (c.next s) (wD k) (wM k) (wM k):=by
 have a:c.sM (s.i+1)=c.sM s.i+wM k:=by refine(?_ :c.sM s.i+wM (c.K s.i)=_);refine I h ?_;rfl
 exact⟨rfl,rfl,rfl,rfl,y.next,dR _,by refine(?_ :_<=c.sD (s.i+1)-s.d);exact MW 0x35aab001a03aab002c280c2074 J (show c.sD (s.i+1)=c.sD s.i+wD k by refine(?_ :c.sD s.i+wD (c.K s.i)=_);exact I h J),by refine(?_ :_<=c.sM (s.i+1)-s.made);exact MW 0x35aab001a03aab002c280c2074 J a,by refine(?_ :_<=c.sM (s.i+1)-s.hd.n);exact MW 0x35aab001a03aab002c280c2074 J a⟩
theorem fZ.ql{k:D}(y:Sy c B s):fZ c B s (s.ql k) 0 (-k) (-k):=⟨rfl,rfl,rfl,rfl,⟨y.iR,y.rest⟩,aE _,by refine(?_ :_<=c.sD s.i-s.d);exact mN 0xd6aac0068ac8aab001 J,by refine(?_ :_<=c.sM s.i-(s.made+k:D));exact JO 0x35aaba01002a2cac1aab002 J,by refine(?_ :_<=c.sM s.i-(s.hd.n+k:D));exact JO 0x35aaba01002a2cac1aab002 J⟩
theorem i9.go(p:i9 c B f m s)(x:fZ c B s v a b e)(g:C<=m+a)(j:0<=b)(h:0<=e):i9 c B f C v:=
 have:=p.d;have:=p.b;have:=p.n;have:=x.ca;have:=x.cb;have:=x.ce
 ⟨x.sy,I x.va p.va,Ww 0xd6aac1182baaac11a812aac016eaab0050eea040c2 J g ‹m<=c.sD s.i-↑s.d› ‹c.sD s.i-↑s.d+a<=c.sD v.i-↑v.d›,za 0x3512b06eaab044a02aab003b83ac0b82ac8 J j ‹↑s.made<=c.sM s.i› ‹c.sM s.i-↑s.made+b<=c.sM v.i-↑v.made›,za 0x3512b06eaab044a02aab003b83ac0b82ac8 J h ‹↑s.hd.n<=c.sM s.i› this,I x.cS (I x.d p.o),I x.lp (az p.l x.le)⟩
theorem md{i j:D}(l:i<=j):c.sM i<=c.sM j:=by
 induction l with
 |refl=>exact cy _
 |step _ a=>
  have:0<=wM (c.K ‹_›):=by unfold wM;split<;>(try split)<;>exact aa J
  exact f9 a (by refine(?_ :_<=c.sM _+wM _);exact Dp 0x35a00041b80ac8 J this)
theorem fZ.forget{f:D}(x:fZ c B s v a b e):fZ c B s {v with hd:={v.hd with sn:=f,n:=min s.hd.n v.hd.n}} a b 0:=⟨x.d,x.lp,x.va,x.cS,⟨x.sy.iR,x.sy.rest⟩,x.le,x.ca,x.cb,by refine(?_ :_<=c.sM v.i-(min s.hd.n v.hd.n:D));exact VM (md (c:=c) x.le)⟩
end
def An(c:Pc)(r:Rl)(B:D->aD)(f:Fg)(i:D)(t:av D):Prop:=∃k,pg (gx c) k B f r i=ae t
def Aw(c:Pc)(ps:ag Pp)(B:D->aD)(f:Fg)(i:D)(t:av D):Prop:=∃k,jB (pg (gx c) k B f) (gx c) B f ps i=ae t
def Af(c:Pc)(ps:ag Pp)(B:D->aD)(f:Fg)(u t:av D):Prop:=match u with
 |some j=>Aw c ps B f j t
 |none=>t=ax
noncomputable abbrev Fq(c:Pc):=Fz (gx c)
section
variable{c:Pc}{B:D->aD}{f:Fg}{ps:ag Pp}{r:Rl}{i:D}{t u:av D}{S E:aF->aD}{k:aF}
theorem Aw.gJ(w:Aw c (tK k::ps) B f i t)(h:c.K i=k):Aw c ps B f (i+1) t:=cs w λn e=>⟨n,vX e h⟩
theorem Aw.nk(w:Aw c (tK k::ps) B f i t)(h:c.K i≠k):t=ax:=cs w λn e=>zJ e h
theorem Ci{n:D}(e:PW (gx c) B f (pg (gx c) n B f) ps u t):Af c ps B f u t:=match u,e with
 |some j,e=>⟨n,e⟩
 |none,e=>e
theorem Aw.dY(w:Aw c (oR r::ps) B f i t):∃u,An c r B f i u/\Af c ps B f u t:=cs w λn e=>dN e λu b a=>(aW u ⟨n,b⟩ (Ci a))
theorem Aw.eG(w:Aw c (.r r .eG::ps) B f i t):∃u,An c r B f i u/\Aw c ps B f (u.getD i) t:=cs w λn e=>aM (B7 e) λu b a=>(aW u ⟨n,b⟩ ⟨n,a⟩)
theorem Aw.dq(w:Aw c [] B f i t):t=ae i:=cs w λa e=>sh e
theorem Aw.oS(w:Aw c ps B f i t)(d:oS S ps=am)(s:S (c.K i)=am):Fq c S t:=cs w λn e=>PA (rU n B f) d s e
theorem Af.oS(w:Af c ps B f u t)(q:Fq c S u)(d:oS S ps=am):Fq c S t:=by
 induction u with
 |none=>exact .of w
 |some j=>exact Aw.oS w d (q j J)
theorem Af.rD(w:Af c ps B f u t)(q:Fq c S u)(d:(Mi.oS S ps&&km ps)=am):t=ax:=by
 have d:=(aq _ _).mp d;induction u with
 |none=>exact w
 |some j=>refine cs w λn e=>?_;exact vE (rU n B f) d.1 d.2 (q j J) e
theorem An.none(w:An c r B f i t)(a:mM r=ai)(m:c.K i∉cO r):t=ax:=cs w λn e=>yC e a m
theorem An.f6(S:ag aF)(w:An c r B f i t)(a:mM r=ai)(m:c.K i∈S){ps:ag Pp}(o:OF S (lJ r)=[ps]):Aw c ps (oz (gx c) B r i) (f.at (gx c) r i) i t:=cs w λn e=>RT S e a m o
def Ag(c:Pc)(r:Rl)(B:D->aD)(f:Fg)(ps:ag Pp)(i:D)(t:av D):Prop:=∃n m k p,again (pg (gx c) n B f r) m i k=ae p/\jB (pg (gx c) n B f) (gx c) B f ps p.1=ae t
theorem Aw.eM(w:Aw c (.r r .eM::ps) B f i t):Ag c r B f ps i t:=cs w λn e=>cY (yi e) λm p b a=>(S8 n m 0 p b a)
theorem Ag.gp(w:Ag c r B f ps i t):∃u,An c r B f i u/\match u with
  |some j=>Ag c r B f ps j t
  |none=>Aw c ps B f i t:=by
 refine Xk w λn m k p e b=>?_;refine aM (j8 e) λu d a=>aW u ⟨n,d⟩ ?_;induction u with
 |some j=>refine cs a λ_ _=>?_;rename_i C a;exact S8 n C _ p a b
 |none=>revert b;exact I a λb=>⟨n,b⟩
theorem Ag.hF(w:Ag c r B f ps i t)(b:mM r=ai)(m:c.K i∉cO r):Aw c ps B f i t:=by
 refine aM w.gp λu a e=>?_;rw[a.none b m] at e;exact e
theorem Ag.oS{S1:aF->aD}(w:Ag c r B f ps i t)(q:∀u,An c r B f i u->Fq c S1 u)(d1:(!mM r&&(cO r).all λk=> !S1 k)=am)(m1:∀k,S1 k=am->S k=am)(s:S (c.K i)=am)(d:Mi.oS S ps=am):Fq c S t:=by
 refine aM w.gp λu a e=>?_;induction u with
 |none=>exact Aw.oS e d s
 |some j=>
  have g:=q _ a j J;refine aM (Ag.gp e) λl b h=>cs b λn a2=>?_;rw[hH (rU n B f) a2 d1 g] at h;exact Aw.oS h d (m1 _ g)
theorem Ag.rD{S1:aF->aD}(w:Ag c r B f ps i t)(q:∀u,An c r B f i u->Fq c S1 u)(d1:(!mM r&&(cO r).all λk=> !S1 k)=am)(m1:∀k,S1 k=am->S k=am)(s:S (c.K i)=am)(d:(Mi.oS S ps&&km ps)=am):t=ax:=by
 refine aM w.gp λu a e=>?_;have d:=(aq _ _).mp d;induction u with
 |none=>refine cs e λ_ _=>?_;rename_i n e;exact vE (rU n B f) d.1 d.2 s e
 |some j=>
  have g:=q _ a j J;refine aM (Ag.gp e) λl b h=>cs b λn a2=>?_;rw[hH (rU n B f) a2 d1 g] at h;refine cs h λn e=>?_;exact vE (rU n B f) d.1 d.2 (m1 _ g) e
theorem An.only(w:An c r B f i t){ps:ag Pp}(o:lJ r=[ps]):Aw c ps (oz (gx c) B r i) (f.at (gx c) r i) i t:=by
 refine cs w λn e=>?_;refine cs (wF e) λk e=>?_;rw[o] at e;exact⟨k,sf e⟩
theorem Ep{X:Gx}{g:Gf}{b:ag Pp}:∀{ps:ag Pp} {i:D},jB g X B f (ps++b) i=ae t->∃u,jB g X B f ps i=ae u/\PW X B f g b u t:=by
 intro a;induction a with
 |nil=>
  intro i w;exact(aW (ae i) J w)
 |cons p ps k=>
  intro i e;refine dN (ps:=ps++b) e λu d c=>?_;induction u with
  |none=>exact aW ax (by unfold jB;exact I d J) c
  |some j=>
   exact aM (k c) λh m l=>aW h (by unfold jB;exact I d m) l
theorem Aw.split{a:ag Pp}{ps:ag Pp}{i:D}(w:Aw c (ps++a) B f i t):∃u,Aw c ps B f i u/\Af c a B f u t:=cs w λn e=>aM (Ep e) λu d b=>(aW u ⟨n,d⟩ (Ci b))
end
def Gc(c:Pc)(X:Prop)(g:D)(A:(D->aD)->Fg->D->av D->Prop)(S:aF->aD)(U:D)(m:aF)(fn:D)(vs:ag V)(W:(D->aD)->St->St->H->V->Prop):Prop:=
 ∀(B:D->aD) (f:Fg) (s:St) (h:H) (Q:P1),Pa c s h->i9 c B f m s->10*(40-s.d)+U<=g->((∀a,A B f s.i a->Fq c S a)->X)->(∀T F v,Sp c s h T F->fZ c B s T 0 0 0->(∀a,A B f s.i a->a=ae T.i)->W B s T F v->Q v F)->P.call am X (g+20) (.fn fn) (.ref c.P::vs) Q h
abbrev W0:(D->aD)->St->St->H->V->Prop:=λa a a a a=>JY
structure Bu(c:Pc)(B:D->aD)(M:St)(N:H)(C:ag (D×O))(a b e:aF)(s:St)(h:H):Prop where
 q:Pz c M N C s h
 o:fZ c B M s a b e
section
variable{c:Pc}{B:D->aD}{f:Fg}{M s T:St}{N h F:H}{C J':ag (D×O)}{a b e m Z:aF}{ps af:ag Pp}{A0:av D->Prop}{X:Prop}{g U fn n:D}{L:bS}{Y:ag S}{R:PS}{Q:P1}{k:aF}{S S':aF->aD}{W:(D->aD)->St->St->H->V->Prop}{es:ag E}{vs:ag V}{A:(D->aD)->Fg->D->av D->Prop}
theorem Pa.bu(q:Pa c s h)(p:i9 c B f m s):Bu c B s h [] 0 0 0 s h:=⟨q.pz,.refl p.sy⟩
theorem Bu.push(u:Bu c B M N C a b e s h)(o:O):Bu c B M N C a b e s (h++[o]):=⟨u.q.push o,u.o⟩
theorem Bu.new(u:Bu c B M N C a b e s h)(o:O):Bu c B M N ((h.length,o)::C) a b e s (h++[o]):=⟨u.q.new o,u.o⟩
theorem Bu.zE(u:Bu c B M N C a b e s h)(m:∀p∈J',p∈C):Bu c B M N J' a b e s h:=⟨u.q.zE m,u.o⟩
theorem Bu.to(u:Bu c B M N C a b e s h){g f d:aF}(z:Sp c s h T F)(o:fZ c B s T g f d):Bu c B M N C (a+g) (b+f) (e+d) T F:=⟨u.q.to z,u.o.trans o⟩
theorem Bu.nx(u:Bu c B M N C a b e s h)(z:Sp c s h (c.next s) F)(d:c.K s.i=k):Bu c B M N C (a+wD k) (b+wM k) (e+wM k) (c.next s) F:=u.to z (.next u.o.sy d)
theorem Bu.mK(u:Bu c B M N C a b e s h)(z:Sp c s h T F)(o:fZ c B s T 0 0 0):Bu c B M N C a b e T F:=⟨u.q.to z,(u.o.trans o).nh (jV (dT a).symm) (jV (dT b).symm) (jV (dT e).symm)⟩
theorem iO{d U lv':D}(l:10*d+U<=g+1)(lt:lv'<U):10*d+lv'<=g:=ri 0x350a80e9012bc10eea090a8069012 J l lt
theorem Bu.go(u:Bu c B M N C a b e s h)(p:i9 c B f Z M)(G:Gc c X g A S U m fn vs W)(r:m<=Z+a)(y:0<=b)(t:0<=e)(l:10*(40-M.d)+U<=g)(x:(∀j,A B f s.i j->Fq c S j)->X)(k:∀T F v,Bu c B M N C a b e T F->Sp c s h T F/\s.i<=T.i->(∀j,A B f s.i j->j=ae T.i)->W B s T F v->Q v F):P.call am X (g+20) (.fn fn) (.ref c.P::vs) Q h:=
 G B f s h Q u.q.ps (p.go u.o r y t) (I u.o.d l) x λT F v z o w n=>k T F v (u.mK z o) ⟨z,o.le⟩ w n
theorem Bu.call{r:Rl}(u:Bu c B M N C a b e s h)(w:∀j,A0 j->Aw c (oR r::ps) B f s.i j)(p:i9 c B f Z M)(G:Gc c X g (An c r) S U m fn vs W)(y:m<=Z+a)(E:0<=b)(A:0<=e)(l:10*(40-M.d)+U<=g)(d:oS S ps=am)(x:(∀j,A0 j->Fq c S j)->X)(k:∀T F v,Bu c B M N C a b e T F->(∀j,A0 j->Aw c ps B f T.i j)->W B s T F v->Q v F):P.call am X (g+20) (.fn fn) (.ref c.P::vs) Q h:=
 u.go p G y E A l (λz=>x λj a=>aM ((w j a).dY) λq o n=>n.oS (z q o) d) λT F v u K H t=>k T F v u (λj a=>by
  refine aM ((w j a).dY) λq o n=>?_;rw[H q o] at n;exact n) t
theorem Bu.wQ{r:Rl}(u:Bu c B M N C a b e s h)(w:∀j,A0 j->Aw c (oR r::ps) B f s.i j)(p:i9 c B f Z M)(G:Gc c X g (An c r) S U m fn vs W)(y:m<=Z+a)(E:0<=b)(A:0<=e)(l:10*(40-M.d)+U<=g)(d:(oS S ps&&km ps)=am)(x:(∀j,A0 j->j=ax)->X)(k:∀T F v,Bu c B M N C a b e T F->(∀j,A0 j->Aw c ps B f T.i j)->W B s T F v->Q v F):P.call am X (g+20) (.fn fn) (.ref c.P::vs) Q h:=
 u.go p G y E A l (λz=>x λj a=>aM ((w j a).dY) λq o n=>n.rD (z q o) d) λT F v u K H t=>k T F v u (λj a=>by
  refine aM ((w j a).dY) λq o n=>?_;rw[H q o] at n;exact n) t
theorem Pa.eW(q:Pa c s h)(e:L[0]? =ae (ae (.ref c.P))){a f:D}(m:P.fI 9 a=ae f/\(xa c (.ref s.hd.r) s.d s.made).lookup a=ax/\a<1000)(b:mC (Cn X n) es L h vs h)(k:P.call am X n (.fn f) (.ref c.P::vs) Q h):(wE (Cn X n) (.me (.l 0) a es)).1 L Q h:=q.me e m.1 m.2.1 b k m.2.2
theorem Bu.take(u:Bu c B M N C a b e s h)(m:L[0]? =ae (ae (.ref c.P)))(w:∀d,A0 d->Aw c (tK k::ps) B f s.i d)(ok:xc k=am)(j:k≠287)(x:(∀d,A0 d->d=ax)->X)(y:∀F,Bu c B M N C (a+wD k) (b+wM k) (e+wM k) (c.next s) F->(∀d,A0 d->Aw c ps B f (c.next s).i d)->cD (Cn X (g+20)) Y L R F):cD (Cn X (g+20)) (.ex (.me (.l 0) 81 [.c (.int k)])::Y) L R h:=
 u.q.ps.eW m (bX J J (ac J)) (.cons .co .nil) (xO (n:=g+9) u.q.ps ok j (λz=>x λd a=>(w d a).nk z) λz F t=>y F (u.nx t z) λd a=>(w d a).gJ z)
theorem Bu.skip(u:Bu c B M N C a b e s h)(f:L[0]? =ae (ae (.ref c.P)))(z:c.K s.i=k)(d:k≠287)(y:∀F,Bu c B M N C (a+wD k) (b+wM k) (e+wM k) (c.next s) F->cD (Cn X (g+20)) Y L R F):cD (Cn X (g+20)) (.ex (.me (.at (.l 0) 53) 59 [])::Y) L R h:=
 oJ (n:=g+10) u.q.ps f (z▸d) λv F t=>y F (u.nx t z)
theorem Bu.m9{o:aF}{j:D}{m:aF}(u:Bu c B M N C a b e s h)(G:L[0]? =ae (ae (.ref c.P)))(w:∀d,A0 d->Aw c (tK k::ps) B f s.i d)(r:L[j]? =ae (ae (.int m)))(E:∃n:D,m=n/\n<=5000)(ok:xc k=am)(v:xc o=am)(A:k≠287)(x:(∀d,A0 d->d=ax)->X)(y:∀F,Bu c B M N C (a+wD k) (b+wM k) (e+wM k) (c.next s) F->(∀d,A0 d->Aw c ps B f (c.next s).i d)->cD (Cn X (g+20)) Y L R F):cD (Cn X (g+20)) (.ex (.me (.l 0) 74 [.c (.int k),.c (.int o),.l j])::Y) L R h:=by
 refine aM E λn p m=>?_;revert r;exact I p λr=>u.q.ps.eW G (bX J J (ac J)) (.cons .co (.cons .co (.cons (.lo r) .nil))) (Lh (n:=g+8) u.q.ps ok v A m (λz=>x λd a=>(w d a).nk z) λz F t=>y F (u.nx t z) λd a=>(w d a).gJ z)
theorem mW(w:oW c.aw){i:D}(e:c.K i=285):∃b,(tk c.aw i).2= .bytes b/\b.head?≠ae 40:=by
 have e:(tk c.aw i).1=285:=e;unfold tk at e⊢;cases f:c.aw[i]? with
 |none=>rw[f] at e;exact cq e (aa J)
 |some r=>
  rw[f] at e;have e:=e;have j:=w.Mn r (bI f);have m:=w.BM r (bI f);refine(?_ :∃b,(fO r.1).2= .bytes b/\_);generalize(fO r.1).2=v at*;rw[e] at j;generalize r.1=wd at*;generalize g:(285:aF)=kk at j;induction j with
  | @Jg a t k v p _ _ h=>
   refine h.elim (λ⟨_,_,h⟩=>(aW _ h (λz=>?_))) λ⟨h,_⟩=>?_
   ·have:=p a (.head _);revert this;exact I (si z) λthis=>ft this
   ·subst g;exfalso;exact aM (bw.mp h) λl o n=>((aa J):∀l∈fk,l.2≠V.int 285) l (qp o) n
  | @cA a=>have:=m a (.head _);exact VG g this
  |io d dl=>exfalso;revert g;match d,dl with|0,_=>exact aa J|1,_=>exact aa J|2,_=>exact aa J
  |_=>exact cq g (aa J)
theorem Bu.name(u:Bu c B M N C a b e s h)(k:L[0]? =ae (ae (.ref c.P)))(w:∀d,A0 d->Aw c (tK 285::ps) B f s.i d)(x:(∀d,A0 d->d=ax)->X)(y:∀j F,j.head?≠ae 40->Bu c B M N C (a+wD 285) (b+wM 285) (e+wM 285) (c.next s) F->(∀d,A0 d->Aw c ps B f (c.next s).i d)->Q (.bytes j) F):(wE (Cn X (g+20)) (.me (.l 0) 76 [])).1 L Q h:=
 u.q.ps.eW k (bX J J (ac J)) .nil (rV (n:=g+9) u.q.ps (λz=>x λd a=>(w d a).nk z) λz F t=>aM (mW u.q.ps.ok z) λj o m=>I o (y j F m (u.nx t z) λd a=>(w d a).gJ z))
theorem Bu.FU(u:Bu c B M N C a b e s h)(f:L[0]? =ae (ae (.ref c.P)))(j:c.K s.i=285)(y:∀d F,d.head?≠ae 40->Bu c B M N C (a+wD 285) (b+wM 285) (e+wM 285) (c.next s) F->Q (.bytes d) F):(wE (Cn X (g+20)) (.me (.l 0) 76 [])).1 L Q h:=
 u.q.ps.eW f (bX J J (ac J)) .nil (rV (n:=g+9) u.q.ps (λz=>cq j z) λz F t=>aM (mW u.q.ps.ok z) λd m k=>I m (y d F k (u.nx t z)))
theorem Bu.RA(u:Bu c B M N C a b e s h)(f:L[0]? =ae (ae (.ref c.P)))(j:c.K s.i=k)(ok:xc k=am)(d:k≠287)(y:∀F,Bu c B M N C (a+wD k) (b+wM k) (e+wM k) (c.next s) F->cD (Cn X (g+20)) Y L R F):cD (Cn X (g+20)) (.ex (.me (.l 0) 81 [.c (.int k)])::Y) L R h:=
 u.q.ps.eW f (bX J J (ac J)) (.cons .co .nil) (xO (n:=g+9) u.q.ps ok d (λz=>cq j z) λz F t=>y F (u.nx t z))
theorem Bu.bL(u:Bu c B M N C a b e s h)(g:0<=a)(f:0<=b)(d:0<=e):fZ c B M s 0 0 0:=u.o.nh g f d
end
theorem oU{n a b m:D}(c:n=m-a)(l:a+1<=b)(r:a<m):m-b<n:=c▸oF r l
noncomputable def SU:aF->aD:=λk=>[46,91,58,123,286].contains k
noncomputable def SX:aF->aD:=λk=>[43,45,278,280,46,91,58,123,286].contains k
noncomputable def Bo:aF->aD:=λk=>[44,43,45,278,280,46,91,58,123,286].contains k
noncomputable def SN:aF->aD:=λa=>ai
noncomputable def VK:ag aF:=[285,284,269,43,278,280,270,35,45,286,279,40,41,44,61,59,58,46,91,93,123,125,262,258,273,259,265,277,272,268,276,266,274,261,260,264,267,287]
structure oA(c:Pc):Prop where
 d:∀i,c.sD i<=37
 m:∀i,c.sM i<=56
 v:∀i,c.K i∈VK
 A6:∀(r:Rl) (B:D->aD) (f:Fg) (i:D),i<=c.aw.length->∃res,An c r B f i res/\∀j,res=ae j->mM r=ai->i<j
theorem oA.lt{c:Pc}(W:oA c){r:Rl}{B:D->aD}{f:Fg}{i j:D}(l:i<=c.aw.length)(n:mM r=ai)(w:∀b,An c r B f i b->b=ae j):i<j:=aM (W.A6 r B f i l) λb a z=>z j (w b a) n
noncomputable def ui(k:D):ag (V×V):=match(kL[k]? :av O) with|some (.dict kvs)=>kvs|_=>[]
theorem Rx:∀k∈VK,(xh (.int k) (ui 2))/\(dp (.int k) (ui 2)).isSome=[45,35,270].contains k:=by
 unfold xh;exact aa J
theorem PL:∀k∈VK,(xh (.int k) (ui 3))/\(dp (.int k) (ui 3)).isSome=[43,45,278,280].contains k:=by
 unfold xh;exact aa J
theorem N4:∀k∈([43,45,278,280]:ag aF),∃j w l r,dp (.int k) (ui 3)=ae (.aV j)/\(kL[j]? :av O)=ae (.bq [.str w,.int l,.int r])/\1<=l/\l<=6/\0<=r/\r<=6:=by
 simp only [List.forall_mem_cons];exact GU (Qi _ _ _ _ rfl J (aa J)) (Qi _ _ _ _ rfl J (aa J)) (Qi _ _ _ _ rfl J (aa J)) (Qi _ _ _ _ rfl J (aa J)) nofun
theorem cg{k:aF}{l:ag aF}:l.contains k=am↔k∈l:=gI
section
variable{c:Pc}{X:Prop}{g:D}
def Rg(c:Pc)(S:aF->aD)(Y:D->av D->Prop)(B:D->aD)(f:Fg)(i:D)(a:av D):Prop:=∃b,An c .qt B f i b/\match b with
 |some j=>Y j a
 |none=>Fq c S a
def Oc(c:Pc)(X:Prop)(g:D):Prop:=∀(B:D->aD) (f:Fg) (s:St) (h:H) (Q:P1) (e:av D->Prop) (S:aF->aD) (Y:D->av D->Prop) (l:aF),Pa c s h->i9 c B f (-1) s->10*(40-s.d)+0<=g->
 (∀a,e a->Rg c S Y B f s.i a)->(∀k,SU k=am->S k=am)->((l=8/\∀j a,Y j a->a=ae j)\/(0<=l/\l<=6/\S=SX/\Y=Ag c .uT B f []))->
 ((∀a,e a->Fq c S a)->X)->(∀b m v,Sp c s h b m->fZ c B s b 0 0 0->(∀a,e a->Y b.i a)->(l=0->c.K b.i∉cO .uT)->Q v m)->P.call am X (g+20) (.fn 69) [.ref c.P,.int l] Q h
theorem rA{X:Gx}{B:D->aD}{f:Fg}{g:Gf}{d:ag aF}{w:ag Pp}{c:ag (ag Pp)}{i:D}{a:av D}(e:rf g X B f ((.t (.any d)::w)::c) i=ae a)(m:X.K i∉d):rf g X B f c i=ae a:=by
 refine aM (dI.mp e) λj h b=>?_;revert b;exact I (yk h m) λb=>b
theorem sN{B:D->aD}{f:Fg}{i:D}{a:av D}(w:An c .qt B f i a)(m:c.K i∉[45,35,270]):An c .iU B f i a:=by
 refine cs w λn e=>?_;refine cs (wF e) λk e=>dN (sf (rA e m)) λd g b=>⟨k,g.trans (aL ae ?_)⟩;induction d with
 |none=>exact b.symm
 |some j=>exact(sh b).symm
theorem Mq{B:D->aD}{f:Fg}{i:D}{a:av D}(w:An c .qt B f i a)(m:c.K i∈[45,35,270]):An c .qt B f (i+1) a:=by
 refine cs (w.f6 [45,35,270] J m J) λn e=>dN (wL e m) λd g b=>⟨n,g.trans (aL ae ?_)⟩;induction d with
 |none=>exact b.symm
 |some j=>exact(sh b).symm
theorem N3{B:D->aD}{f:Fg}{i:D}{b:av D}(w:Ag c .uT B f [] i b)(m:c.K i∈[43,45,278,280]):Rg c SX (Ag c .uT B f []) B f (i+1) b:=by
 refine aM w.gp λo a e=>cs (a.f6 [43,45,278,280] J m J) λn l=>dN (wL l m) λd h g=>aW d ⟨n,h⟩ ?_;induction d with
 |none=>
  revert e;refine I g λe=>?_;intro j z;rw[e.dq] at z;exact sb (si z) (((aa J):∀k∈([43,45,278,280]:ag aF),SX k=am) _ m)
 |some j=>
  revert e;exact I (sh g) λe=>e
theorem Mo{k:aF}(m:k∈[43,45,278,280]\/k∈[45,35,270]):wD k=1/\wM k=0/\k≠287:=m.elim (((aa J):∀k∈([43,45,278,280]:ag aF),wD k=1/\wM k=0/\k≠287) k) (((aa J):∀k∈([45,35,270]:ag aF),wD k=1/\wM k=0/\k≠287) k)
theorem Rg.uK{S:aF->aD}{Y:D->av D->Prop}{B:D->aD}{f:Fg}{i:D}{b:av D}(w:Rg c S Y B f i b)(q:∀d,An c .qt B f i d->Fq c SU d)(l:∀k,SU k=am->S k=am)(h:(∀j b,Y j b->b=ae j)\/Y=Ag c .uT B f []):Fq c S b:=by
 refine aM w λd a e=>?_;induction d with
 |none=>exact e
 |some j=>
  have g:=q _ a j J;have n:=h.elim (λz=>z j b e) λz=>by
   rw[z] at e;exact(e.hF J λm=>by rw[((aa J):∀k,k∈cO .uT->SU k=ai) _ m] at g;exact ft g).dq
  intro o z;rw[n] at z;exact sb (si z) (l _ g)
end
section
variable{C:Cy}{L:bS}{h A G:H}{e F M r:E}{es:ag E}{v N y:V}{X:Prop}{n:D}{Q:P1}{O:ag S}{R:PS}
theorem jb{Q:ag V->H->Prop}(a:Ev C e L h v A)(k:oh C es L (λb=>Q (v::b)) A):oh C (e::es) L Q h:=a _ k
theorem dM{Q:ag V->H->Prop}(k:(wE C e).1 L (λv=>oh C es L λa=>Q (v::a)) h):oh C (e::es) L Q h:=k
theorem dP{Q:ag V->H->Prop}(k:Q [] h):oh C [] L Q h:=k
theorem gT(b:Ev (Cn X n) F L h N h)(a2:Ev (Cn X n) M L h y h)(k:oh (Cn X n) es L (λa A=>P.call am X n (.cls 5) [N,y,.ref (Y7 A)] Q (A++[.list a])) h):(wE (Cn X n) (.ca (.c (.cls 5)) [F,M,.eS es])).1 L Q h:=b _ (a2 _ k)
theorem RP{c:ag D}{b:ag V}(a:Ev C r L h v G)(g:Look C.K G v (.bq b))(l:(Y7 b)=Y7 c)(k:cD C O (ip L c b) R G):cD C (.as (.tu c) r::O) L R h:=a _ (bQ b g l k)
end
section
variable{c:Pc}{X:Prop}{g:D}{B:D->aD}{f:Fg}{m a b e:aF}{s t:St}
theorem i9.enter(p:i9 c B f m s):i9 c B f (m-1) {s with d:=s.d+1}:=⟨⟨p.sy.iR,p.sy.rest⟩,p.va,by refine(?_ :m-1<=c.sD s.i-((s.d+1:D):aF));exact Bi 0x35aaba09002aab241baaac0081 J p.d,p.b,p.n,Wc p.o,p.l⟩
theorem fZ.MS(x:fZ c B {s with d:=s.d+1} t a b e):fZ c B s {t with d:=s.d} a b e:=⟨rfl,x.lp,x.va,x.cS,⟨x.sy.iR,x.sy.rest⟩,x.le,by
 refine(?_ :c.sD s.i-s.d+a<=c.sD t.i-s.d);exact za 0xd6aac01280eaac00b0a09001d2eaab044a03aaba09002 J x.ca x.d,x.cb,x.ce⟩
theorem i9.XC(W:oA c)(p:i9 c B f m s)(l: -3<=m):s.d<=40:=by have:=p.d;have:=W.d s.i;exact Bi 0xd60280bab74a0aeaab00206e06cacb J l ‹m<=c.sD s.i-↑s.d› this
theorem Ob(W:oA c)(Gs:Gc c X g (An c .iU) SU 7 (-2) 70 [] W0)(Go:Oc c X g):Oc c X (g+1):=λB f s h Q A0 S Y l q p lv w hS hY no yes=>by
 have d40:s.d<40:=by have:=p.d;have:=W.d s.i;exact mN 0x3680a02eadd281baaac006cac9 J ‹-1<=c.sD s.i-↑s.d› this
 have lv':=Q6 lv d40
 have hY1:=hY.imp (·.2) (·.2.2.2)
 refine(?_ :P.call am X ((g+20)+1) _ _ _ _)
 refine bQ _ rfl J (q.eW (n:=g+20) J (bX J J (ac J)) .nil (Dg q d40 λG z1=>?_))
 have p1:=p.enter
 have u1:=(z1.1.bu p1).push (.bq [.int (c.ln s),.int (c.K s.i)])
 refine pY (.bq (.cons (z1.1.line J) (.cons (z1.1.kind (n:=g+19) J) .nil))) lk J ?_
 have t1:=Rx _ (W.v s.i)
 have rest:∀(y v3 v4:V) (o5 o6 o7:av V) (t:St) (A:H),Bu c B {s with d:=s.d+1} G [] 0 0 0 t A->(∀res,A0 res->Y t.i res)->cD (Cn X (g+20)) (TM.drop 3) [some (.ref c.P),some (.int l),some y,some v3,some v4,o5,o6,o7] (rt Q) A:=λy v3 v4 o5 o6 o7 t A u wy=>by
  refine oY (λn L h=>∃y v3 v4 o5 o6 o7 t,L=[some (.ref c.P),some (.int l),some y,some v3,some v4,o5,o6,o7]/\Bu c B {s with d:=s.d+1} G [] 0 0 0 t h/\(∀res,A0 res->Y t.i res)/\n=c.aw.length-t.i) _ (Qj y v3 v4 o5 (uR o6 o7 t J u wy J)) λn L h zz3=>GV zz3 λy v3 v4 o5 o_l=>?_;clear zz3;refine DU o_l λo6 o7 t F u wy en=>?_;clear o_l
  refine I F (cv (PL _ (W.v t.i)) λb1 b2=>?_)
  have bL:(l=0->c.K t.i∉cO .uT)->cD (Cn X (g+20)) (TM.drop 4) [some (.ref c.P),some (.int l),some y,some v3,some v4,o5,o6,o7] (rt Q) h:=λhz=>
   u.q.ps.eW J (bX J J (ac J)) .nil (Df (d:=s.d) (n:=g+19) u.q.ps u.o.d (fh d40) λh2 z2=>cJ (.lo J) (yes {t with d:=s.d} h2 v4 ((z1.trans u.q.sp).trans z2) u.o.MS wy hz))
  have tin:Et (Cn X (g+20)) (.cj .In (.me (.l 0) 57 []) (.c (.aV 3))) [some (.ref c.P),some (.int l),some y,some v3,some v4,o5,o6,o7] h ([43,45,278,280].contains (c.K t.i)) h:=b2▸.cj (u.q.ps.kind (n:=g+19) J) .co (.s7 (.dict J b1))
  cases hc:([43,45,278,280]:ag aF).contains (c.K t.i) with
  |false=>
   rw[hc] at tin
   exact dO ai h (.hZ tin) (cM aC (bL λx_ m=>by rw[(cg (l:=[43,45,278,280])).mpr m] at hc;cases hc))
  |true=>
   rw[hc] at tin
   refine Mk (N4 _ (cg.mp hc)) λj wd lf rg F M l1 l6 o_l=>cv o_l λr0 r6=>?_;clear o_l
   have ent:∀{L:bS} {h:H} {t:St} (q:Pa c t h),L[0]? =some (some (.ref c.P))->dp (.int (c.K t.i)) (ui 3)=some (.aV j)->xh (.int (c.K t.i)) (ui 3)->Ev (Cn X (g+20)) (.sub (.c (.aV 3)) (.me (.l 0) 57 [])) L h (.aV j) h:=λq l0 e d=> .sub .co (q.kind (n:=g+19) l0) (.dict J d e)
   have mem:=cg.mp hc
   have tgt:Et (Cn X (g+20)) (.cj .Gt (.sub (.sub (.c (.aV 3)) (.me (.l 0) 57 [])) (.c (.int 1))) (.l 1)) [some (.ref c.P),some (.int l),some y,some v3,some v4,o5,o6,o7] h (decide (lf>l)) h:= .cj (.sub (ent u.q.ps J F b1) .co (.bq (k:=1) M (fJ (by refine(?_ :1<3);exact ac J) (by refine(?_ :3<=dW);exact ac J)) J)) (.lo J) (.int J)
   by_cases gt:lf>l
   ·rw[aR gt] at tgt
    refine rQ (hY.resolve_left λz=>Dp 0x3bc2b401d2f001bab380 J l6 gt z.1) λl0 l6' o_2 o_3=>?_;revert w hS hY no;refine I o_2 λw hS hY no=>?_;clear yes hY1 w hY;rcases o_3 with rfl
    refine i7 (Mo (.inl mem)) λw1 w2 w3=>dO am h (.du tin (.du tgt .uj)) (dG J (cZ (u.q.ps.line J) (RP (ent u.q.ps J F b1) M J (oJ (n:=g+10) u.q.ps J w3 λv h2 z2=>?_))))
    have u2:=u.nx z2 J
    rw[w1,w2] at u2
    refine gT .co (.lo J) (jb (.lo J) (jb (.lo J) (dM (Ev.lo (C:=Cn X (g+20)) J _ (aW 69 (uR c.P 9 _ rfl u2.q.ps.mH J J) (Ev.lo J _ (Go B f (c.next t) h2 _ A0 SX (Ag c .uT B f []) rg u2.q.ps (p1.go u2.o (aa J) (aa J) (aa J)) (by refine(?_ :10*(40-t.d)+0<=g);refine I u.o.d (?_ :10*(40-(s.d+1))+0<=g);exact dw 0xd40a08a414ae028469052 J lv') (λres a=>N3 (wy res a) mem) hS (.inr (qG r0 r6 J J)) no λs3 h3 v z3 o3 wy3 x_=>dP (ci (n:=g+18) _ ?_))))))))
    have lt:=Pc.lt w3
    have le3:=o3.le
    exact⟨c.aw.length-s3.i,by first|exact oU (by assumption) (by assumption) (by assumption)|lia,_,_,_,_,_,_,s3,rfl,((u2.mK z3 o3).push _).push _|>λu=>⟨u.q,u.o.nh (aa J) (aa J) (aa J)⟩,wy3,rfl⟩
   ·rw[aO gt] at tgt
    exact dO ai h (.du tin (.hZ tgt)) (cM aC (bL λz=>Vz l1 gt z))
 refine m8 (((λl3=>t1.2▸.cj (.lo l3) .co (.s7 (.dict J t1.1))):∀{L:bS} {h:H},L[3]? =some (some (.int (c.K s.i)))->Et (Cn X (g+20)) (.cj .In (.l 3) (.c (.aV 2))) L h ([45,35,270].contains (c.K s.i)) h) J) (λhc=>?_) λhc=>?_
 ·have mem:=cg.mp hc
  refine i7 (Mo (.inr mem)) λw1 w2 w3=>oJ (n:=g+10) u1.q.ps J w3 λv h2 z2=>?_
  have u2:=u1.nx z2 J
  rw[show wD (c.K ({s with d:=s.d+1}:St).i)=1 from w1,show wM (c.K ({s with d:=s.d+1}:St).i)=0 from w2] at u2
  refine cs (d8.mp (t1.2.trans hc)) λuv ue=>gT .co (.lo J) (jb (.sub .co (.lo J) (.dict J t1.1 ue)) (dM (Ev.lo (C:=Cn X (g+20)) J _ (aW 69 (uR c.P 9 _ rfl u2.q.ps.mH J J) (Ev.co _ (Go B f (c.next {s with d:=s.d+1}) h2 _ (An c .qt B f (s.i+1)) SU (λj res=>res=some j) 8 u2.q.ps (p1.go u2.o (aa J) (aa J) (aa J)) (by refine(?_ :10*(40-(s.d+1))+0<=g);exact dw 0xd40a08a414ae028469052 J lv') (λres a=>(aW res a (by cases res with|none=>exact .none|some j=>rfl))) (λx_ z=>z) (.inl ⟨rfl,λx_ x_ z=>z⟩) (λz=>no λres a=>(w res a).uK (λr1 a1=>z r1 (Mq a1 mem)) hS hY1) λs3 h3 v z3 o3 wy3 x_=>dP (ci (n:=g+18) _ (rest _ _ _ _ _ _ s3 _ (((u2.mK z3 o3).push _).push _|>λu=>⟨u.q,u.o.nh (aa J) (aa J) (aa J)⟩) λres a=>aM (w res a) λr1 a1 a2=>?_))))))))
  rw[wy3 r1 (Mq a1 mem)] at a2
  exact a2
 ·have nm:c.K s.i∉[45,35,270]:=λz=>by rw[cg.mpr z] at hc;cases hc
  refine u1.q.ps.eW J (bX J J (ac J)) .nil (u1.go p1 Gs (aa J) (aa J) (aa J) (by refine(?_ :10*(40-(s.d+1))+7<=g);exact dw 0xd40a0fa414ae028469052 J lv') (λz=>no λres a=>(w res a).uK (λr1 a1=>z r1 (sN a1 nm)) hS hY1) λs3 h3 v u3 z3 w3 x_=>rest _ _ _ _ _ _ s3 _ u3 λres a=>aM (w res a) λr1 a1 a2=>?_)
  rw[w3 r1 (sN a1 nm)] at a2
  exact a2
end
theorem wC{C:Cy}{e:E}{b F:ag S}{Q:PS}{L:bS}{h:H}(a:D->bS->H->Prop)(n:D)(i:a n L h)(f:∀n L h,a n L h->(wE C e).2 L (λt c=>if t=am then cD C b L (λg d y=>match g with
  | .next=>∃m,m<n/\a m d y
  | .brk=>cD C F d Q y
  | .ret v=>Q (.ret v) d y) c else cD C F L Q c) h):cD C (.wh e b::F) L Q h:=(dO a n i (λn L h i=>by
 refine cast (aL (λq=>(wE C e).2 L q h) (funext λt=>funext λc=>?_)) (f n L h i);cases t<;>rfl))
section
variable{C:Cy}{e o:E}{es:ag E}{L:bS}{h:H}{Q:P1}{F:ag S}{R:PS}{i l:D}{A:ag V}
theorem cN(k:(wE C e).1 L (λv=>cD C F (cx L i v) R) h):cD C (.as (.n i) e::F) L R h:=k
theorem mD(k:(wE C e).1 L (λa=>cD C F L R) h):cD C (.ex e::F) L R h:=k
theorem fQ(k:(wE C e).1 L (λv=>R (.ret v) L) h):cD C (.re (ae e)::F) L R h:=k
theorem ua{b d:ag S}(k:(wE C e).2 L (λt=>if t=am then cD C b L (sq C F R) else cD C d L (sq C F R)) h):cD C (.jC e b d::F) L R h:=k
theorem pP(k:oh C es L (λvs h=>Q (.ref h.length) (h++[.list vs])) h):(wE C (.eS es)).1 L Q h:=k
theorem M5(k:oh C es L (λvs h=>Q (.ref h.length) (h++[.bq vs])) h):(wE C (.bq es)).1 L Q h:=k
theorem wN(x:Ev C o L h (.ref l) h)(g:h[l]? =ae (.list A))(k:(wE C e).1 L (λv y=>∃A,y[l]? =ae (.list A)/\Y7 A<=dW/\Q .none (y.set l (.list (A++[v])))) h):(wE C (.me o 1000 [e])).1 L Q h:=x _ (by
 unfold rY;exact cM (aa J) (aW 1 (.list g (.inl J)) (cast (aL (λq=>(wE C e).1 L q h) (funext λv=>funext λy=>zM ⟨λz_0=>kh z_0 λA a b c=>(dO _ _ (.ii a b) c),λz_0=>cY z_0 λx_ x_ a b=>by cases a with|ii g l=>exact bQ _ g l b⟩)) k)))
end
theorem uV{S a:ag aF}(h:∀k∈S,k∈a):∀k,(λk=>S.contains k) k=am->(λk=>a.contains k) k=am:=λk m=>cg.mpr (h k (cg.mp m))
section
variable{c:Pc}{X:Prop}{g:D}{B:D->aD}{f:Fg}{m a b e:aF}{s N G:St}{h M y:H}{r:ag (D×O)}{L:bS}{Q:P1}{k:aF}{es:ag E}{vs:ag V}{T:av D->Prop}
theorem RM:∀k,SU k=am->SX k=am:=uV (S:=[46,91,58,123,286]) (aa J)
theorem FG:∀k,SX k=am->Bo k=am:=uV (S:=[43,45,278,280,46,91,58,123,286]) (aa J)
theorem Bu.Ul(u:Bu c B N M r a b e s h)(m:L[0]? =ae (ae (.ref c.P)))(j:k≠287)(f:c.K s.i≠k->Q (.bool ai) h)(d:c.K s.i=k->∀y,Bu c B N M r (a+wD k) (b+wM k) (e+wM k) (c.next s) y->Q (.bool am) y):(wE (Cn X (g+20)) (.me (.l 0) 62 [.c (.int k)])).1 L Q h:=
 u.q.ps.eW m (bX J J (ac J)) (.cons .co .nil) (Be (n:=g+9) u.q.ps j f λz y t=>d z y (u.nx t z))
theorem Bu.pI{R:aD->H->Prop}(u:Bu c B N M r a b e s h)(m:L[0]? =ae (ae (.ref c.P)))(j:k≠287)(f:c.K s.i≠k->R ai h)(d:c.K s.i=k->∀y,Bu c B N M r (a+wD k) (b+wM k) (e+wM k) (c.next s) y->R am y):(wE (Cn X (g+20)) (.me (.l 0) 62 [.c (.int k)])).2 L R h:=
 u.Ul (Q:=xB R) m j (λz=>(aW ai J (f z))) λz y u=>(aW am J (d z y u))
theorem Bu.z(u:Bu c B N M r a b e s h){a' b' e':aF}(g:a'<=a)(f:b'<=b)(d:e'<=e):Bu c B N M r a' b' e' s h:=⟨u.q,u.o.nh g f d⟩
theorem Bu.ii{l:D}{A:ag V}(u:Bu c B N M [(l,.list A)] a b e s h)(d:(Y7 M)<=l)(v:V):Bu c B N M [(l,.list (A++[v]))] a b e s (h.set l (.list (A++[v]))):=⟨u.q.wZ d nofun,u.o⟩
theorem RK(u:Oc c X g):Gc c X (g+1) (An c .fU) SX 1 (-1) 68 [] W0:=λB f s h Q q p l k d=>by
 refine(?_ :P.call am X ((g+20)+1) _ _ _ _);refine bQ _ rfl J (q.me (n:=g+20) J J J (.cons .co .nil) (u B f s h _ (An c .fU B f s.i) SX (Ag c .uT B f []) 0 q p (iO l (ac J)) (λb a=>?_) RM (.inr (qG (cy _) (aa J) J J)) k λG y v z o w m=>d G y v z o (λb a=>((w b a).hF J (m J)).dq) trivial) (ac J));exact aM ((a.only J).dY) λe t a2=>aW e t (by
  induction e with
  |none=>exact .of a2
  |some j=>exact Aw.eM a2)
theorem Of(Ge:Gc c X g (An c .fU) SX 1 (-1) 68 [] W0):Gc c X (g+1) (An c .iT) Bo 2 (-1) 67 [] W0:=λB f s h Q q p lv no yes=>by
 refine(?_ :P.call am X ((g+20)+1) _ _ _ _);have lv':=iO (lv':=1) lv (ac J);refine bQ _ rfl J (cN (pP (dM (q.eW (n:=g+20) J (bX J J (ac J)) .nil ((q.bu p).call (λres a=>An.only a J) p Ge (aa J) (aa J) (aa J) lv' J (λz=>no λres a=>(z res a).fH FG) λs1 h1 v u w x_=>dP ?_)))));have hl:=u.q.nx.sz;refine wC (λn L y=>∃G A,L=[some (.ref c.P),some (.ref (Y7 h1))]/\Bu c B s h [(Y7 h1,.list A)] 0 0 0 G y/\(∀res,An c .iT B f s.i res->Ag c .more B f [] G.i res)/\Y7 A<=G.i+1/\n=c.aw.length-G.i) _ (wU s1 ([v]) J (u.new (.list [v])) (λres a=>(w res a).eM) (by refine(?_ :1<=_);exact bO 0x35a09009 J) J) λn L y zz3=>wY zz3 λG A e1 u w lx en=>?_;refine I e1 (u.pI J (aa J) (λz=>?_) λz h2 u2=>?_)
 ·exact cM aC (cJ (.lo J) (yes G y _ u.q.sp u.o (λres a=>((w res a).hF J λm=>z (ao.mp m)).dq) trivial))
 ·refine dG J ?_;have lt:=Pc.lt (I z (aa J));refine mD (wN (.lo J) (u2.q.get (.head _)) (u2.q.ps.eW (n:=g+20) J (bX J J (ac J)) .nil (u2.go p Ge (aa J) (aa J) (aa J) lv' (λq=>no λres a=>?_) λs3 h3 v u3 z3 w3 x_=>?_)))
  ·refine(w res a).oS (S1:=SX) (λr1 a1=>?_) (aa J) FG (I z J) J;exact aM (((a1.only J).gJ z).dY) λr2 a2 a3=>a3.oS (q r2 a2) J
  ·have le:=z3.2;refine bQ A (u3.q.get (.head _)) (by exact gC 0xd5889e80902e8234c2bc206ea09040 J lx lt u.q.ps.ok.o0) ⟨c.aw.length-s3.i,by first|exact oU (by assumption) (by assumption) (by assumption)|lia,s3,A++[v],rfl,(u3.ii hl v).z (aa J) (aa J) (aa J),λres a=>?_,by refine I au (?_ :_+1<=_);exact gC 0x35a090a8240b82a0906ea09040 J lx le,rfl⟩;refine aM ((λres a=>(w res a).gp) res a) λr1 a1 e1=>aM (((a1.only J).gJ z).dY) λr2 a2 a3=>?_;revert a3;refine I (w3 r2 a2) λa3=>?_;revert e1;exact I (a3.dq) λe1=>e1
end
def Gk(c:Pc)(X:Prop)(g:D)(T:ag aF)(A:(D->aD)->Fg->D->av D->Prop)(S:aF->aD)(N:D)(m:aF)(fn:D)(vs:ag V)(W:(D->aD)->St->St->H->V->Prop):Prop:=
 ∀(B:D->aD) (f:Fg) (s:St) (h:H) (Q:P1),c.K s.i∈T->Pa c s h->i9 c B f m s->10*(40-s.d)+N<=g->((∀C,A B f s.i C->Fq c S C)->X)->(∀F M v,Sp c s h F M->fZ c B s F 0 0 0->(∀C,A B f s.i C->C=ae F.i)->W B s F M v->Q v M)->P.call am X (g+20) (.fn fn) (.ref c.P::vs) Q h
noncomputable abbrev Js:ag D:=[105,110,100,101,120]
section
variable{c:Pc}{X:Prop}{g N n:D}{B:D->aD}{f:Fg}{m U a b e:aF}{s R F:St}{h Y M:H}{y:ag (D×O)}{L:bS}{Q:P1}{k:aF}{es:ag E}{vs:ag V}{Z:av D->Prop}{A:(D->aD)->Fg->D->av D->Prop}{S:aF->aD}{W:(D->aD)->St->St->H->V->Prop}{fn:D}{T:ag aF}{ps:ag Pp}{i:D}{C:av D}
theorem Bu.TF(u:Bu c B R Y y a b e s h)(p:i9 c B f U R)(G:Gk c X g T A S N m fn vs W)(t:c.K s.i∈T)(r:m<=U+a)(H:0<=b)(E:0<=e)(l:10*(40-R.d)+N<=g)(x:(∀j,A B f s.i j->Fq c S j)->X)(k:∀F M v,Bu c B R Y y a b e F M->Sp c s h F M/\s.i<=F.i->(∀j,A B f s.i j->j=ae F.i)->W B s F M v->Q v M):P.call am X (g+20) (.fn fn) (.ref c.P::vs) Q h:=
 G B f s h Q t u.q.ps (p.go u.o r H E) (I u.o.d l) x λF M v z o w n=>k F M v (u.mK z o) ⟨z,o.le⟩ w n
theorem Aw.oZ(w:Aw c (.t .oZ::ps) B f i C)(h:c.K i=40):(B i=ai->Aw c ps B f (i+1) C)/\(B i=am->C=ax):=by
 refine cs w λn e=>?_;refine dN e λd b a=>?_;have b:ae (if c.K i=40/\B i=ai then ae (i+1) else ax)=ae d:=b;refine⟨λz=>?_,λz=>?_⟩
 ·rw[cw ⟨h,z⟩] at b;revert a;exact sb (si b) λa=>⟨n,a⟩
 ·rw[bG λq=>by rw[z] at q;cases q.2] at b;revert a;exact sb (si b) λa=>a
theorem Aw.Uv{r:Rl}(w:Aw c (.r r .eG::tK k::ps) B f i C)(q:∀a,An c r B f i a->Fq c S a)(d:S k=ai)(e:c.K i≠k):C=ax:=by
 refine aM w.eG λa g b=>?_;induction a with
 |none=>exact b.nk e
 |some j=>exact b.nk λz=>by have:=q _ g j J;rw[show(gx c).K j=k from z,d] at this;exact ft this
theorem qy{C:av D}(q:Fq c SN C):C=ax:=by
 induction C with
 |none=>rfl
 |some j=>exact nomatch q j J
abbrev WN(c:Pc):(D->aD)->St->St->H->V->Prop:=λB a F a a=>Nr c B F
abbrev WF(c:Pc):(D->aD)->St->St->H->V->Prop:=λB s F h v=>eD h v Js/\Nr c B F/\(c.K s.i=58->c.sM s.i-s.made+1<=c.sM F.i-F.made)
theorem RG(t:Gc c X g (An c .fU) SX 1 (-1) 68 [] W0):Gk c X (g+1) [91] (Aw c [tK 91,oR .fU,tK 93]) SN 2 (-2) 74 [] (WN c):=λB f s h Q b q p N k d=>by
 refine(?_ :P.call am X ((g+20)+1) _ _ _ _);have b:=ao.mp b;exact bQ _ rfl J ((q.bu p).skip J b (aa J) λA j=>cN (j.q.ps.eW (n:=g+20) J (bX J J (ac J)) .nil (j.wQ (λC a=>Aw.gJ a b) p t (aa J) (aa J) (aa J) (iO N (ac J)) (aa J) (λz=>k λC a=> .of (z C a)) λw x v i m u=>i.take J m J (aa J) (λz=>k λC a=> .of (z C a)) λr e l=>cJ (.lo J) (d _ r _ e.q.sp (e.bL (aa J) (aa J) (aa J)) (λC a=>(l C a).dq) (.next i.o.sy)))))
theorem Rv{k:aF}(m:k∈[46,58]):wD k=0/\0<=wM k/\k≠287:=((aa J):∀k∈([46,58]:ag aF),wD k=0/\0<=wM k/\k≠287) k m
theorem Ku{t:V}:Gk c X (g+1) [46,58] (λB f i=>Aw c [tK 285] B f (i+1)) SN 1 (-2) 73 [t] (WF c):=λB f s h Q A q p N x d=>by
 refine(?_ :P.call am X ((g+20)+1) _ _ _ _);refine i7 (Rv A) λw b u=>bQ _ rfl J (cZ (q.line J) (oJ (n:=g+10) q J u λv H m=>?_));have e:=((q.bu p).nx m J).z (a':=0) (b':=0) (e':=0) (I w (aa J)) (j5 0x35a00ac8ac8b80ac8 J b) (j5 0x35a00ac8ac8b80ac8 J b);exact cN (gT .co (e.q.ps.line J) (dM (e.name (f:=f) J (λr a=>a) (λz=>x λC a=> .of (z C a)) λE G r j b=>dP (ci (n:=g+18) _ (cJ (.cls (.cons .co (.cons (.lo J) (.cons (.eS (.cons (.lo J) (.cons (.lo J) .nil))) .nil))) (ci (n:=g+18))) (d _ _ _ ((((j.push _).push _).push _).push _).q.sp (j.bL (aa J) (aa J) (aa J)) (λC a=>(b C a).dq) (bX (.i lk) (.next e.o.sy) (λk=>by
  have l:c.sM (s.i+1)=c.sM s.i+wM (c.K s.i):=rfl;rw[k,show wM 58=1 from J] at l;refine(?_ :c.sM s.i-s.made+1<=c.sM (s.i+2)-s.made);exact MW 0xd6aac00e8ac9aab002b83070a2b242074 J l (md (dR _))))))))))
def Ga(c:Pc)(X:Prop)(g:D):Prop:=∀(B:D->aD) (f:Fg) (s:St) (h:H) (Q:P1),Nr c B s->Pa c s h->i9 c B f (-2) s->10*(40-s.d)+5<=g->((∀C,An c .given B f s.i C->C=ax)->X)->(∀F M v,Sp c s h F M->fZ c B s F 0 0 0->(∀C,An c .given B f s.i C->C=ae F.i)->Nr c B F->Q v M)->P.call am X (g+20) (.fn 75) [.ref c.P] Q h
theorem Og(Gt:Gc c X g (An c .table) SN 4 (-2) 76 [] (WN c))(Gx:Gc c X g (An c .iT) Bo 2 (-1) 67 [] W0):Ga c X (g+1):=λB f s h Q nr q p N w e=>by
 refine(?_ :P.call am X ((g+20)+1) _ _ _ _)
 have b:=(q.bu p).push (.bq [.int (c.ln s),.int (c.K s.i)])
 refine bQ _ rfl J (pY (.bq (.cons (q.line J) (.cons (q.kind (n:=g+19) J) .nil))) lk J ?_)
 by_cases k:c.K s.i=286
 ·refine aM (b.q.ps.cur (X:=X) (n:=g+20) (L:=[some (.ref c.P),some (.int (c.ln s)),some (.int (c.K s.i)),none]) J) λmm ec gc=>bT (bj (.lo J) .co (iA k)) (cZ (.eS (.cons (.cls (.cons .co (.cons (.lo J) (.cons (.eS (.cons (.at ec (.i gc J J)) .nil)) .nil))) (ci (n:=g+18))) .nil)) ((((b.push _).push _).push _).skip J k (aa J) λW d=>cJ (.lo J) (e _ W _ d.q.sp (d.bL (aa J) (aa J) (aa J)) (λC a=>?_) (.next b.o.sy))))
  exact((a.f6 [286] J (ao.mpr k) J).gJ k).dq
 ·refine bm (bj (.lo J) .co (ib k)) ?_
  by_cases O:c.K s.i=123
  ·exact bT (bj (.lo J) .co (iA O)) (fQ (pP (dM (b.q.ps.eW (n:=g+20) J (bX J J (ac J)) .nil (b.call (A0:=An c .given B f s.i) (λC a=>An.f6 [123] a J (ao.mpr O) J) p Gt (aa J) (aa J) (aa J) (iO N (ac J)) J (λz=>w λC a=>qy (z C a)) λs3 W v d r S=>dP (e s3 _ _ (d.push _).q.sp (d.bL (aa J) (aa J) (aa J)) (λC a=>(r C a).dq) S))))))
  ·refine bm (bj (.lo J) .co (ib O)) ?_
   by_cases j:c.K s.i=40
   ·have pk:=λC (a:An c .given B f s.i C)=>(a.f6 [40] J (ao.mpr j) J).oZ j
    refine bm (bj (.lo J) .co (EC j)) ?_
    by_cases G:s.eY=c.ln s
    ·refine bm (bj (.lo J) (b.q.ps.eY J) (EC G.symm)) (b.skip J j (aa J) λW d=>?_)
     have r:=λC a=>(pk C a).1 (nr.mp G)
     have A:∀(u:St) (x:H) (v:V) (e5:c.sD 0=0),Bu c B s h [] (0+wD 40) (0+wM 40) (0+wM 40) u x->(∀C,An c .given B f s.i C->Aw c [tK 41] B f u.i C)->cD (Cn X (g+20)) (WP.drop 7) [some (.ref c.P),some (.int (c.ln s)),some (.int (c.K s.i)),some v] (rt Q) x:=λu x v x_ E w4=>
      E.m9 (o:=40) J w4 J (Pc.qk b.q.ps.ok) J J (aa J) (λz=>w λC a=>z C a) λh5 u5 w5=>cJ (.lo J) (e _ h5 _ u5.q.sp (u5.bL (aa J) (aa J) (aa J)) (λC a=>(w5 C a).dq) (.next E.o.sy))
     refine cN (Et.cj (op:= .Eq) (t:=c.K (s.i+1)==41) (d.q.ps.kind (n:=g+19) J) .co (.int J) _ ?_)
     cases k4:c.K (s.i+1)==41 with
     |true=>
      refine dG J (pP (dP (A _ _ _ rfl (d.push _) λC a=>aM ((r C a).eG) λr1 a1 l=>?_)))
      revert l;exact I (a1.none J (I (a6.mp k4) (aa J))) λl=>l
     |false=>
      refine cM aC (d.q.ps.eW (n:=g+20) J (bX J J (ac J)) .nil (d.go p Gx (aa J) (aa J) (aa J) (iO N (ac J)) (λz=>w λC a=>(r C a).Uv z J (aK.mp k4)) λu x v E x_ w4 x_=>A u x v J E λC a=>aM ((r C a).eG) λr1 a1 l=>?_))
      rw[w4 r1 a1] at l
      exact l
    ·have bi:B s.i=am:=by
      cases hb:B s.i with
      |true=>rfl
      |false=>exact cq (nr.mpr hb) G
     exact bT (bj (.lo J) (b.q.ps.eY J) (EB (pr G))) (lW (n:=g+14) b.q.ps J (w λC a=>(pk C a).2 bi) (ac J))
   ·exact bT (bj (.lo J) .co (EB j)) (lW (n:=g+14) b.q.ps J (w λC a=>a.none J λm=>by
     have m:c.K s.i∈([286,123,40]:ag aF):=m
     have:c.K s.i=286\/c.K s.i=123\/c.K s.i=40:=by simpa using m
     exact Vy k O j this) (ac J))
end
noncomputable def SI:aF->aD:=λk=>[61,43,45,278,280,46,91,58,123,286].contains k
theorem BK:∀k,SX k=am->SI k=am:=uV (S:=[43,45,278,280,46,91,58,123,286]) (aa J)
section
variable{c:Pc}{X:Prop}{g F n:D}{B:D->aD}{f:Fg}{m M a b e:aF}{s G A:St}{h N T:H}{u:ag (D×O)}{L:bS}{Q:P1}{k:aF}{es:ag E}{vs:ag V}{ps:ag Pp}{i:D}{res:av D}
theorem Aw.jZ(w:Aw c (.t .jZ::ps) B f i res):(c.K i≠40->Aw c ps B f i res)/\(c.K i=40->res=ax):=by
 refine cs w λn e=>?_;refine dN e λd b a=>?_;have b:ae (if c.K i=40 then ax else ae i)=ae d:=b;refine⟨λz=>?_,λz=>?_⟩
 ·rw[bG z] at b;revert a;exact sb (si b) λa=>⟨n,a⟩
 ·rw[cw z] at b;revert a;exact sb (si b) λa=>a
theorem IS(w:An c .fU B f i res)(h:c.K i=285)(a:c.K (i+1)=61):res=ae (i+1):=by
 refine aM ((w.only J).dY) λj e d=>aM (((sN e (I h (aa J))).f6 [285] J (ao.mpr h) J).dY) λg a2 b=>?_;revert b;refine I (((a2.f6 [285] J (ao.mpr h) J).gJ h).dq) λb=>?_;revert d;exact I ((((Aw.eM (b)).hF J (I a (aa J))).jZ.1 (I a (aa J))).dq) λd=>((Aw.eM (d)).hF J (I a (aa J))).dq
theorem Kw(y:Sy c B s)(h:c.K s.i=285):Sy c (oz (gx c) B .dQ s.i) {s with la:=am}/\∀k,s.i+2<=k->oz (gx c) B .dQ s.i k=B k:=by
 have a:∀k,s.i+2<=k->oz (gx c) B .dQ s.i k=B k:=λk l=>by
  refine(?_ :(if c.K s.i=285/\s.i+1<c.aw.length then λk=>if k=s.i+1 then ai else B k else B) k=B k);split
  ·exact bG (dw 0xea824006e068280 J l)
  ·rfl
 refine⟨⟨λd=>⟨h,?_⟩,λk l=>(a k l).trans (y.rest k (az (show s.rd<=s.i+2 by unfold St.rd;split<;>lia) l))⟩,a⟩;refine(?_ :(if c.K s.i=285/\s.i+1<c.aw.length then λk=>if k=s.i+1 then ai else B k else B) (s.i+1)=ai);split
 ·exact cw J
 ·rename_i z;cases b:s.la with
  |true=>exact(y.iR b).2
  |false=>
   refine I (y.rest (s.i+1) (by unfold St.rd;exact I b (aE _))) ?_;unfold bh;refine I (dF (fB λq=>z ⟨h,q⟩)) ?_;rfl
theorem Eo{X:Gx}{g:Gf}{ks:ag aF}{b:ag (ag Pp)}{c:aF}{d:ag aF}{w:ag Pp}(e:rf g X B f ((.t (.any d)::tK c::w)::b) i=ae res)(m:X.K i∈d)(h:X.K (i+1)≠c):rf g X B f b i=ae res:=by
 refine aM (dI.mp e) λk j a=>?_;revert a;exact I (zJ (wL j m) h) λa=>a
theorem vC(w:An c .dQ B f i res)(h:c.K i≠91)(g:c.K i=285->c.K (i+1)≠61):An c .fU (oz (gx c) B .dQ i) f i res:=by
 refine cs w λn e=>?_;refine cs (wF e) λk e=>?_;have e:=rA (w:=[oR .fU,tK 93,tK 61,oR .fU]) e λz=>h (ao.mp z);have e:rf (pg (gx c) k (oz (gx c) B .dQ i) f) (gx c) (oz (gx c) B .dQ i) f [[oR .fU]] i=ae res:=by
  by_cases a:c.K i=285
  ·exact Eo (ks:=[]) (w:=[oR .fU]) e (ao.mpr a) (g a)
  ·exact rA (w:=[tK 61,oR .fU]) e λz=>a (ao.mp z)
 refine dN (sf e) λd l b=>⟨k,l.trans (aL ae ?_)⟩;induction d with
 |none=>exact b.symm
 |some j=>exact(sh b).symm
theorem EN(w:An c .dQ B f i res)(b:c.K i=285)(g:c.K (i+1)=61):∃a,Aw c [oR .fU] (oz (gx c) B .dQ i) f (i+2) a/\(match a with|some j=>res=some j|none=>res=some (i+1)):=by
 refine cs w λn e=>?_;refine cs (wF e) λk e=>?_;have e:=rA (w:=[oR .fU,tK 93,tK 61,oR .fU]) e λz=>by have:=ao.mp z;rw[show(gx c).K i=285 from b] at this;cases this
 refine aM (dI.mp e) λa l h=>aW a ⟨k,vX (vX l b) g⟩ ?_;induction a with
 |some j=>exact sb (si h) J
 |none=>
  refine dN (sf h) λm a2 d=>?_;revert d;exact I (IS ⟨k,a2⟩ b g) λd=>sh d
theorem fZ.dQ{h:D->aD}(x:fZ c h {s with la:=am} A a b e)(l:s.i+1<=A.i)(g:∀k,s.i+2<=k->h k=B k):fZ c B s A a b e:=⟨x.d,x.lp,x.va,x.cS,⟨λz=>cv (x.sy.iR z) λp q=>⟨p,(g _ (dw 0xd68241a0a02e068240 J l)).symm.trans q⟩,λk f=>I (aQ (g k (by unfold St.rd at f;split at f<;>lia))) (x.sy.rest k f)⟩,x.le,x.ca,x.cb,x.ce⟩
theorem Dz{C:Cy}{c:E}{es:ag E}{R:aD->H->Prop}{b:H}(a:Et C c L h am b)(k:(wE C (.du es)).2 L R b):(wE C (.du (c::es))).2 L R h:=a _ k
theorem uM{C:Cy}{a:E}{R:aD->H->Prop}(k:(wE C a).2 L (λt=>if t=am then R am else R ai) h):(wE C (.du [a])).2 L R h:=k
theorem Oe(W:oA c)(Y:Gc c X g (An c .fU) SX 1 (-1) 68 [] W0)(Gy:Gk c X g [91] (Aw c [tK 91,oR .fU,tK 93]) SN 2 (-2) 74 [] (WN c)):Gc c X (g+1) (An c .dQ) SI 3 (-1) 77 [] W0:=λB f s h Q q p F R x=>by
 refine(?_ :P.call am X ((g+20)+1) _ _ _ _);have y:=iO (lv':=1) F (ac J);refine bQ _ rfl J (cZ (q.line J) (ua ?_));by_cases w:c.K s.i=285
 ·refine Dz (bj (q.kind (n:=g+19) J) .co (iA w)) (uM (q.mx (n:=g+20) J J (λC=>rfl) .nil (OV (n:=g+10) q λmm h1 U n1 af=>(aW _ (.i af J J) (aW (c.K (s.i+1)==61) (.int J) ?_))) (ac J)));refine cv (Kw p.sy w) λaj ne=>?_;have p1:i9 c (oz (gx c) B .dQ s.i) f (-1) {s with la:=am}:=⟨aj,p.va,p.d,p.b,p.n,p.o,p.l⟩;have E:=U.bu p1;by_cases e:c.K (s.i+1)=61
  ·refine I (a6.mpr e) (dG J ?_);have t:=λres (a:An c .dQ B f s.i res)=>EN a w e;refine cN (gT .co (.lo J) (dM (E.FU J w λnm h2 C u2=>dP (ci (n:=g+18) _ (((u2.push _).push _).RA J e J (aa J) λh3 S=>fQ (gT .co (.lo J) (jb (.lo J) (dM (S.q.ps.eW (n:=g+20) J (bX J J (ac J)) .nil (S.go p1 Y (aa J) (aa J) (aa J) y (λz=>R λres a=>?_) λH h4 v m Z w4 C=>dP (ci (n:=g+18) _ ?_)))))))))))
   ·refine aM (t res a) λO L k=>aM L.dY λr2 a2 V=>?_;have U:=V.oS (z r2 a2) J;induction O with
    |some j=>exact I k (λj' z=>BK _ (U j' z))
    |none=>
     refine I k λj z=>sb (si z) (?_ :SI (c.K (s.i+1))=am);exact I e J
   ·refine x H _ _ (Sp.trans ⟨U,n1⟩ ((m.push _).push _).q.sp) ((m.bL (aa J) (aa J) (aa J)).dQ (dw 0xd41a0902e068268240 J Z.2) ne) (λres a=>?_) trivial;refine aM (t res a) λO L k=>aM L.dY λr2 a2 V=>?_;rw[w4 r2 a2] at V;revert k;exact I (V.dq) λk=>k
  ·dsimp only;refine I (aK.mpr e) (cM aC (cM aC (bm (bj (E.q.ps.kind (n:=g+19) J) .co (ib (I w (aa J)))) (fQ (gT .co (.lo J) (dM (E.q.ps.eW (n:=g+20) J (bX J J (ac J)) .nil (E.go p1 Y (aa J) (aa J) (aa J) y (λz=>R λres a=>(z res (vC a (I w (aa J)) λC=>e)).fH BK) λH h4 v m Z w4 C=>dP (ci (n:=g+18) _ (x H _ _ (Sp.trans ⟨U,n1⟩ ((m.push _).push _).q.sp) ((m.bL (aa J) (aa J) (aa J)).dQ ?_ ne) (λres a=>w4 res (vC a (I w (aa J)) λC=>e)) trivial))))))))));exact W.lt (r:= .fU) q.pE J w4
 ·have bB:oz (gx c) B .dQ s.i=B:=(cw J).trans (bG λz=>w z.1);have E:=q.bu p;refine(Et.hZ (bj (q.kind (n:=g+19) J) .co (ib w))) _ (cM aC ?_);by_cases e:c.K s.i=91
  ·have t:=λres (a:An c .dQ B f s.i res)=>Aw.split (ps:=[tK 91,oR .fU,tK 93]) (a.f6 [91] J (ao.mpr e) J);rw[bB] at t;refine bT (bj (q.kind (n:=g+19) J) .co (iA e)) (cN (q.eW (n:=g+20) J (bX J J (ac J)) .nil (E.TF p Gy (ao.mpr e) (aa J) (aa J) (aa J) (iO F (ac J)) (λz=>R λres a=>?_) λs2 h2 v u2 z2 w2 C=>?_)))
   ·refine aM (t res a) λO L k=>?_;revert k;exact I (qy (z O L)) λk=> .of k
   ·have w3:∀res,An c .dQ B f s.i res->Aw c [tK 61,oR .fU] B f s2.i res:=λres a=>by
     refine aM (t res a) λO L k=>?_;rw[w2 O L] at k;exact k
    exact u2.take J w3 J (aa J) (λz=>R λres a=> .of (z res a)) λh3 S w3=>fQ (gT .co (.lo J) (jb (.lo J) (dM (S.q.ps.eW (n:=g+20) J (bX J J (ac J)) .nil (S.call w3 p Y (aa J) (aa J) (aa J) y J (λz=>R λres a=>(z res a).fH BK) λH h4 v m w4 C=>dP (ci (n:=g+18) _ (x H _ _ ((m.push _).push _).q.sp (m.bL (aa J) (aa J) (aa J)) (λres a=>(w4 res a).dq) trivial)))))))
  ·have t:=λres (a:An c .dQ B f s.i res)=>vC a e λz=>cq z w;rw[bB] at t;exact bm (bj (q.kind (n:=g+19) J) .co (ib e)) (fQ (gT .co (.lo J) (dM (q.eW (n:=g+20) J (bX J J (ac J)) .nil (E.go p Y (aa J) (aa J) (aa J) y (λz=>R λres a=>(z res (t res a)).fH BK) λH h4 v m Z w4 C=>dP (ci (n:=g+18) _ (x H _ _ ((m.push _).push _).q.sp (m.bL (aa J) (aa J) (aa J)) (λres a=>w4 res (t res a)) trivial)))))))
end
section
variable{c:Pc}{X:Prop}{g:D}{B:D->aD}{f:Fg}{i b j x:D}{res:av D}
def wc(c:Pc)(B:D->aD)(f:Fg)(b j:D)(res:av D):Prop:=∃r,Ag c .other B f [.r .xG .eG] j r/\Aw c [tK 125] B f (r.getD b) res
theorem Ba(w:An c .xG B f j res)(h:c.K j∈[44,59]):res=ae (j+1):=by
 rcases aZ.mp h with h|h
 ·exact((w.f6 [44] J (ao.mpr h) J).gJ h).dq
 ·have h:=ao.mp h;exact((w.f6 [59] J (ao.mpr h) J).gJ h).dq
theorem wc.hF(w:wc c B f b j res)(h:c.K j∉[44,59]):Aw c [tK 125] B f j res:=by
 refine aM w λr a e=>?_;refine aM ((a.hF J h).eG) λk i g=>?_;revert g;refine I (i.none J h) λg=>?_;revert e;exact I (g.dq) λe=>e
theorem vy(w:An c .other B f j res)(h:c.K j∈[44,59]):An c .dQ B f (j+1) res:=by
 refine aM ((w.only J).dY) λk i a=>?_;revert a;refine I (Ba i h) λa=>aM (Aw.dY (a)) λg a2 e=>?_;induction g with
 |none=>exact I e a2
 |some j=>exact I (Aw.dq (e)) a2
theorem wc.Ur(w:wc c B f b j res)(h:c.K j∈[44,59])(n:∀r,An c .dQ B f (j+1) r->r=ax):Aw c [tK 125] B f (j+1) res:=by
 refine aM w λr a e=>?_;refine aM a.gp λm k i=>?_;revert i;refine I (n _ (vy k h)) λi=>aM (Aw.eG i) λl a2 g=>?_;revert g;refine I (Ba a2 h) λg=>?_;revert e;exact I (g.dq) λe=>e
theorem wc.dQ(w:wc c B f b j res)(h:c.K j∈[44,59])(n:∀r,An c .dQ B f (j+1) r->r=ae x):wc c B f b x res:=by
 refine aM w λr a e=>?_;refine aM a.gp λk i g=>?_;revert g;exact I (n _ (vy i h)) λg=>aW r g e
theorem RO:∀k∈([44,59,125]:ag aF),SI k=ai:=aa J
theorem wc.si(w:wc c B f b j res)(s:SI (c.K j)=am):res=ax:=(w.hF λm=>by rw[RO _ (by rcases aZ.mp m with m|m;exact m▸.head _;exact ao.mp m▸.tail _ (.head _))] at s;exact ft s).nk λz=>by rw[z] at s;exact ft s
theorem wc.uK(w:wc c B f b j res)(h:c.K j∈[44,59])(n:∀r,An c .dQ B f (j+1) r->Fq c SI r)(l:c.K (j+1)≠125):res=ax:=by
 refine aM (id w) λr a e=>aM a.gp λk o i=>?_;induction k with
 |some m=>exact wc.si (aW r i e) ((n _ (vy o h)) m J)
 |none=>
  refine aM (Aw.eG i) λp a2 g=>?_;revert g;refine I (Ba a2 h) λg=>?_;revert e;exact I (g.dq) λe=>e.nk l
theorem vB(w:Aw c [.r .items .eG,tK 125] B f b res):∃g,An c .dQ B f b g/\(match g with|some j=>wc c B f b j res|none=>Aw c [tK 125] B f b res):=by
 refine aM w.eG λr a e=>aM ((a.only J).dY) λg i h=>aW g i ?_;induction g with
 |none=>revert e;exact I h λe=>e
 |some j=>exact aW r (Aw.eM h) e
def Tb(c:Pc)(B:D->aD)(f:Fg)(d:av D->Prop)(b j:D):Prop:=(j=b/\∀res,d res->Aw c [.r .items .eG,tK 125] B f b res)\/∃a,j=a+1/\c.K a∈[44,59]/\∀res,d res->wc c B f b a res
variable{d:av D->Prop}
theorem Tb.bL(w:Tb c B f d b j)(h:c.K j=125)(a:d res):Aw c [tK 125] B f j res:=by
 have n:∀{i r},c.K i=125->An c .dQ B f i r->r=ax:=λh a=>a.none J (I h (aa J));rcases w with⟨rfl,w⟩|⟨m,rfl,g,w⟩
 ·refine aM (vB (w res a)) λl k e=>?_;revert e;exact I (n h k) λe=>e
 ·exact(w res a).Ur g λr a=>n h a
theorem Tb.dQ(w:Tb c B f d b j)(n:∀r,An c .dQ B f j r->r=ae x)(a:d res):wc c B f b x res:=by
 rcases w with⟨rfl,w⟩|⟨k,rfl,h,w⟩
 ·refine aM (vB (w res a)) λg i e=>?_;revert e;exact I (n g i) λe=>e
 ·exact(w res a).dQ h n
theorem Tb.uK(w:Tb c B f d b j)(n:∀r,An c .dQ B f j r->Fq c SI r)(e:c.K j≠125)(a:d res):res=ax:=by
 rcases w with⟨rfl,w⟩|⟨m,rfl,k,w⟩
 ·refine aM (vB (w res a)) λh l g=>?_;induction h with
  |none=>exact Aw.nk g e
  |some i=>exact wc.si g (n _ l i J)
 ·exact(w res a).uK k n e
theorem so{C:Cy}{e:E}{L:bS}{R:aD->H->Prop}{h:H}(k:(wE C e).2 L (λt=>R !t) h):(wE C (.lu e)).2 L R h:=k
theorem yJ{C:Cy}{e:E}{a:ag E}{L:bS}{R:aD->H->Prop}{h:H}(k:(wE C e).2 L (λt=>if t=am then(wE C (.du a)).2 L R else R ai) h):(wE C (.du (e::a))).2 L R h:=k
theorem Kt(Gi:Gc c X g (An c .dQ) SI 3 (-1) 77 [] W0):Gc c X (g+1) (An c .table) SN 4 (-2) 76 [] (WN c):=λB f s h Q q p lv no yes=>by
 refine(?_ :P.call am X ((g+20)+1) _ _ _ _);refine bQ _ rfl J (pY (.bq (.cons (q.line J) (.cons (.eS .nil) .nil))) lk J ((((q.bu p).new (.list [])).push (.bq [.int (c.ln s),.ref h.length])).take J (λres a=>An.only a J) J (aa J) (λz=>no λres a=> .of (z res a)) λh1 u1 w1=>?_));have bL:∀(xs:ag V) (s':St) (h':H),Bu c B s h [(h.length,.list xs)] 2 0 0 s' h'->(∀res,An c .table B f s.i res->Aw c [tK 125] B f s'.i res)->cD (Cn X (g+20)) (WO.drop 3) [some (.ref c.P),some (.int (c.ln s)),some (.ref h.length)] (rt Q) h':=λxs s' h' u w=>
  u.m9 (o:=123) J w J (Pc.qk q.ok) J J (aa J) (λz=>no λres a=> .of (z res a)) λh5 u5 w5=>cJ (.cls (.cons .co (.cons (.lo J) (.cons (.eS (.cons (.lo J) .nil)) .nil))) (ci (n:=g+18))) (yes _ _ _ ((u5.push _).push _).q.sp (u5.bL (aa J) (aa J) (aa J)) (λres a=>(w5 res a).dq) (.next u.o.sy))
 refine wC (λn L h'=>∃s' xs,L=[some (.ref c.P),some (.int (c.ln s)),some (.ref h.length)]/\Bu c B s h [(h.length,.list xs)] 2 0 0 s' h'/\Tb c B f (An c .table B f s.i) (c.next s).i s'.i/\Y7 xs<=s'.i/\n=c.aw.length-s'.i) _ (wU _ ([]) J (u1.z (aa J) (aa J) (aa J)) (.inl ⟨rfl,w1⟩) (bU _) J) λn L h' zz3=>wY zz3 λs' xs e1 u w lx en=>?_;refine I e1 ((bj (u.q.ps.kind (n:=g+19) J) .co J) _ ?_);cases hk:c.K s'.i==125 with
 |true=>
  exact cM (aa J) (bL xs s' h' u λres a=>w.bL (a6.mp hk) a)
 |false=>
  refine dG (aa J) (mD (wN (.lo J) (u.q.get (.head _)) (u.q.ps.eW (n:=g+20) J (bX J J (ac J)) .nil (u.go p Gi (aa J) (aa J) (aa J) (iO lv (ac J)) (λz=>no λres a=> .of (w.uK z (aK.mp hk) a)) λs2 h2 v u2 z2 w2 x_=>(bQ xs (u2.q.get (.head _)) (by exact gC 0xd5889e80902e081ba08d30ae040 J lx u.q.ps.ok.o0 u.q.ps.pE) ?_)))));have le2:=z2.2;have u3:=u2.ii (aE _) v;have it:=λres a=>w.dQ (res:=res) w2 a;have nx:∀(s3:St) (h3:H),s3.i=s2.i+1->s2.i<c.aw.length->c.K s2.i∈[44,59]->Bu c B s h [(h.length,.list (xs++[v]))] 2 0 0 s3 h3->∃m,m<n/\∃s' xs',([some (V.ref c.P),some (.int (c.ln s)),some (.ref h.length)]:bS)=[some (.ref c.P),some (.int (c.ln s)),some (.ref h.length)]/\Bu c B s h [(h.length,.list xs')] 2 0 0 s' h3/\Tb c B f (An c .table B f s.i) (c.next s).i s'.i/\Y7 xs'<=s'.i/\m=c.aw.length-s'.i:=λs3 h3 e l hm u=>⟨_,by first|exact oU (by assumption) (lS e.symm) (by assumption)|exact Vx en le2 e l,s3,_,rfl,u,.inr (bQ s2.i e hm it),by rw[au];show _+1<=_;exact ri 0x350e8240c282420f4b8206e040 J lx le2 e,rfl⟩;refine ua (yJ (so (u3.pI J (aa J) (λn1=>?_) λz h4 u4=>?_)))
  ·refine dG (aa J) (uM (so (u3.pI J (aa J) (λn2=>?_) λz h4 u4=>?_)))
   ·exact dG (aa J) (dG J (bL _ s2 _ u3 λres a=>(it res a).hF λm=>by
    rcases aZ.mp m with m|m
    ·exact n1 m
    ·exact n2 (ao.mp m)))
   ·exact cM (aa J) (cM (aa J) (nx _ _ rfl (Pc.lt (I z (aa J))) (I z (aa J)) (u4.z (aa J) (aa J) (aa J))))
  ·exact cM (aa J) (cM (aa J) (nx _ _ rfl (Pc.lt (I z (aa J))) (I z (aa J)) (u4.z (aa J) (aa J) (aa J))))
end
noncomputable abbrev Ut:ag D:=[112,97,114,101,110]
noncomputable abbrev Np:ag D:=[108,111,99,97,108]
noncomputable abbrev Nu:ag D:=[103,108,111,98,97,108]
noncomputable abbrev wr:ag D:=[99,97,108,108]
noncomputable abbrev wj:ag D:=[109,101,116,104,111,100]
def JX(c:Pc)(i:D)(h:H)(v:V):Prop:=(c.K i=40/\eD h v Ut)\/(c.K i=285/\(eD h v Np\/eD h v Nu))
section
variable{c:Pc}{X:Prop}{g n:D}{B:D->aD}{f:Fg}{i j x t l:D}{b:av D}{s:St}{h y:H}{L:bS}{es:ag E}{Q:P1}
theorem eD.ii{v:V}{a:ag D}{o:O}(q:eD h v a):eD (h++[o]) v a:=wW q λn l p e g=>(oK n l p e (bH g))
theorem Pa.Tq(q:Pa c s h)(g:L[0]? =ae (ae (.ref c.P))){a f:D}(m:P.fI 9 a=ae f/\(xa c (.ref s.hd.r) s.d s.made).lookup a=ax/\a<1000)(k:oh (Cn X n) es L (λe=>P.call am X n (.fn f) (.ref c.P::e) Q) h):(wE (Cn X n) (.me (.l 0) a es)).1 L Q h:=Ev.lo (C:=Cn X n) g _ (by
 unfold rY;exact dG m.2.2 (aW f (uR c.P 9 _ rfl q.mH m.1 m.2.1) k))
theorem HV(O:Gc c X g (An c .fU) SX 1 (-1) 68 [] W0):Gc c X (g+1) (An c .head) SN 2 (-2) 71 [] (λB s C h v=>Nr c B C/\JX c s.i h v/\(c.K s.i=285->C.i=s.i+1)):=λB f s h Q q p M r k=>by
 refine(?_ :P.call am X ((g+20)+1) _ _ _ _);have u:=q.bu p;refine bQ _ rfl J (cZ (q.line J) ?_);by_cases d:c.K s.i=40
 ·exact bT (bj (q.kind (n:=g+19) J) .co (iA d)) (u.skip J d (aa J) λT A=>cN (gT .co (.lo J) (dM (A.q.ps.eW (n:=g+20) J (bX J J (ac J)) .nil (A.wQ (λb (a:An c .head B f s.i b)=>(a.f6 [40] J (ao.mpr d) J).gJ d) p O (aa J) (aa J) (aa J) (iO M (ac J)) (aa J) (λz=>r λb a=> .of (z b a)) λR y v j H F=>dP (ci (n:=g+18) _ (((j.push _).new _).m9 (o:=40) J H J (Pc.qk q.ok) J J (aa J) (λz=>r λb a=> .of (z b a)) λw l G=>cJ (.lo J) (k _ w _ l.q.sp (l.bL (aa J) (aa J) (aa J)) (λb a=>(G b a).dq) (bX (.next j.o.sy) (.inl ⟨d,_,_,_,rfl,l.q.get (.head _)⟩) (λz=>by rw[d] at z;cases z))))))))))
 ·refine bm (bj (q.kind (n:=g+19) J) .co (ib d)) ?_;by_cases e:c.K s.i=285
  ·exact bT (bj (q.kind (n:=g+19) J) .co (iA e)) (fQ (q.Tq (n:=g+20) J (bX J J (ac J)) (dM (u.FU J e λS y N j=>jb (.lo J) (dP (MI (n:=g+17) j.q.ps N λv w E L=>k _ w v (j.q.to E).sp (j.bL (aa J) (aa J) (aa J)) (λb a=>(((λb (a:An c .head B f s.i b)=>a.f6 [285] J (ao.mpr e) J) b a).gJ e).dq) (bX (.next u.o.sy) (.inr ⟨e,L⟩) (λF=>rfl))))))))
  ·exact bm (bj (q.kind (n:=g+19) J) .co (ib e)) (lW (n:=g+14) q J (r λb a=> .of (a.none J λm=>by
   rcases aZ.mp m with m|m
   ·exact e m
   ·exact d (ao.mp m))) (ac J))
def Ac(c:Pc)(r:Rl)(B:D->aD)(f:Fg)(i k:D)(p:D×D):Prop:=∃n m,again (pg (gx c) n B f r) m i k=ae p
theorem Ac.gp{r:Rl}{k:D}{p:D×D}(w:Ac c r B f i k p):∃a,An c r B f i a/\match a with
  |some j=>Ac c r B f j (k+1) p
  |none=>p=(i,k):=by
 refine Mm w λn m e=>?_;refine aM (j8 e) λa h d=>aW a ⟨n,h⟩ ?_;induction a with
 |some j=>refine cs d λ_ _=>?_;rename_i g d;exact DT n g d
 |none=>exact d
structure ru(c:Pc)(B:D->aD)(f:Fg)(t j l:D):Prop where
 hb:∀ps b,Ag c .behind B f ps t b->Ag c .behind B f ps j b
 gr:∃jf kf,(∀p,Ac c .wJ B f t 0 p->Ac c .wJ B f jf kf p)/\(∀ps b,Ag c .args B f ps jf b->Ag c .args B f ps j b)/\(jf=j\/c.K jf∈cO .args)/\(kf=0->jf=t)/\(l=2->c.K jf∈cO .args)/\(l=1->jf=j/\kf≠0)/\(l=0->jf=j/\kf=0)
 ta:∃ja ka,(∀p,Ac c .tail B f t 0 p->Ac c .tail B f ja ka p)/\(∀ps b,Ag c .field B f ps ja b->Ag c .field B f ps j b)/\(ja=j\/c.K ja∈cO .field)/\(l=2->ja=j/\ka≠0)/\(l=0->ka=0)/\(l=1->c.K ja∈cO .field)
 k0:(l=0->j=t)/\(l≠0->c.K t∈cO .behind)
theorem ru.nil:ru c B f j j 0:=⟨λd d a=>a,(wU j 0 (λd a=>a) (λd d a=>a) (.inl J) (λd=>rfl) (bX nofun nofun (λd=>⟨rfl,rfl⟩))),(wU j 0 (λd a=>a) (λd d a=>a) (.inl J) nofun ⟨(λd=>rfl),nofun⟩),λd=>rfl,λz=>cq J z⟩
theorem Ag.step{r:Rl}{g:ag Pp}(w:Ag c r B f g j b)(q:∀d,An c r B f j d->d=ae x):Ag c r B f g x b:=by
 refine aM w.gp λd a e=>?_;rw[q d a] at e;exact e
theorem Aw.iz{r:Rl}(w:Aw c [oR r] B f i b):An c r B f i b:=by
 refine aM w.dY λd a e=>?_;induction d with
 |none=>exact I e a
 |some j=>exact I (Aw.dq (e)) a
theorem nz{k:aF}(m:k∈cO .field):k∉cO .args/\k∈cO .behind:=((aa J):∀k∈cO .field,k∉cO .args/\k∈cO .behind) k m
theorem mB{k:aF}(m:k∈cO .args):k∉cO .field/\k∈cO .behind:=((aa J):∀k∈cO .args,k∉cO .field/\k∈cO .behind) k m
theorem ru.first(q:ru c B f t j l)(k:c.K j∈cO .behind):c.K t∈cO .behind:=by
 by_cases z:l=0
 ·exact I (aQ (q.k0.1 z)) k
 ·exact q.k0.2 z
theorem ru.fld(q:ru c B f t j l)(k:c.K j∈cO .field)(w:∀r,An c .field B f j r->r=ae x):ru c B f t x 1:=by
 refine wY q.gr λE s A z G F d=>uS q.ta λv u n m i d=>?_;have tk:=i.elim (λe=>e▸k) id;refine⟨λg b a=>(q.hb g b a).step λr a=>w r (a.f6 [46,91] J k J).iz,(wU x (s+1) (λp a=>?_) (λd d a=>a) (.inl J) nofun (bX nofun (λd=>⟨rfl,nofun⟩) nofun)),(wU v u n (λg b a=>(m g b a).step w) (.inr tk) nofun ⟨nofun,(λd=>tk)⟩),nofun,λd=>q.first (nz k).2⟩;refine aM ((A p a).gp) λo C h=>?_;rw[w o (((z _ _ (C.only J).eM).hF J (nz k).1).iz)] at h;exact h
theorem ru.arg(q:ru c B f t j l)(k:c.K j∈cO .args)(w:∀r,An c .args B f j r->r=ae x):ru c B f t x 2:=by
 refine wY q.gr λv s E C A z d=>uS q.ta λH u n m G d=>?_;have h:=A.elim (λe=>e▸k) id;refine⟨λg b a=>(q.hb g b a).step λr a=>w r (a.f6 [58,286,123,40] J k J).iz,(wU v s E (λg b a=>(C g b a).step w) (.inr h) z (bX (λd=>h) nofun nofun)),(wU x (u+1) (λp a=>?_) (λd d a=>a) (.inl J) (λd=>⟨rfl,nofun⟩) ⟨nofun,nofun⟩),nofun,λd=>q.first (mB k).2⟩;refine aM ((n p a).gp) λo F i=>?_;rw[w o (((m _ _ (F.only J).eM).hF J (mB k).1).iz)] at i;exact i
end
def PV(c:Pc)(i:D)(h:H)(v:V)(l:D):Prop:=(l=0/\JX c i h v)\/(l=1/\eD h v Js)\/(l=2/\(eD h v wr\/eD h v wj))
def PF(c:Pc)(B:D->aD)(f:Fg)(i:D):Prop:=(∀r,An c .head B f i r->r=ax)\/∃y j l,(∀r,An c .head B f i r->r=ae y)/\(c.K i=285->y=i+1)/\ru c B f y j l/\c.K j∈cO .behind/\(∀r,An c .field B f j r->r=ax)/\∀r,An c .args B f j r->r=ax
def Gp(c:Pc)(X:Prop)(g:D):Prop:=∀(B:D->aD) (f:Fg) (s:St) (h:H) (Q:P1),Pa c s h->i9 c B f (-2) s->10*(40-s.d)+6<=g->(PF c B f s.i->X)->(∀a b v y l,Sp c s h a b->fZ c B s a 0 0 0->(∀r,An c .head B f s.i r->r=ae y)->(c.K s.i=285->y=s.i+1)->ru c B f y a.i l->c.K a.i∉cO .behind->PV c s.i b v l->Q v b)->P.call am X (g+20) (.fn 72) [.ref c.P] Q h
section
variable{c:Pc}{X:Prop}{g n:D}{B:D->aD}{f:Fg}{i j A y l:D}{e:av D}{s:St}{h x:H}{L:bS}{es:ag E}{Q:P1}
theorem JX.ii{v:V}{o:O}(q:JX c i h v):JX c i (h++[o]) v:=q.imp (λd=>cv d λa b=>⟨a,b.ii⟩) λd=>cv d λa b=>⟨a,b.imp (·.ii) (·.ii)⟩
theorem PV.ii{v:V}{o:O}(q:PV c i h v l):PV c i (h++[o]) v l:=q.imp (λd=>cv d λa b=>⟨a,b.ii⟩) λq=>q.imp (λd=>cv d λa b=>⟨a,b.ii⟩) λd=>cv d λa b=>⟨a,b.imp (·.ii) (·.ii)⟩
theorem DF(w:An c .args B f j e)(h:c.K j∈[286,123,40]):An c .given B f j e:=(w.f6 [286,123,40] J h J).iz
theorem I9(w:An c .args B f j e)(h:c.K j=58):Aw c [tK 285,oR .given] B f (j+1) e:=(w.f6 [58] J (ao.mpr h) J).gJ h
theorem Dw(w:An c .field B f j e)(h:c.K j=46):Aw c [tK 285] B f (j+1) e:=(w.f6 [46] J (ao.mpr h) J).gJ h
theorem Dv(w:An c .field B f j e)(h:c.K j=91):Aw c [tK 91,oR .fU,tK 93] B f j e:=w.f6 [91] J (ao.mpr h) J
theorem D5(W:oA c)(Gh:Gc c X g (An c .head) SN 2 (-2) 71 [] (λB s j h v=>Nr c B j/\JX c s.i h v/\(c.K s.i=285->j.i=s.i+1)))(Gf:∀t,Gk c X g [46,58] (λB f i=>Aw c [tK 285] B f (i+1)) SN 1 (-2) 73 [t] (WF c))(Gy:Gk c X g [91] (Aw c [tK 91,oR .fU,tK 93]) SN 2 (-2) 74 [] (WN c))(Gg:Ga c X g):Gp c X (g+1):=λB f s h Q q p lv no GE=>by
 refine(?_ :P.call am X ((g+20)+1) _ _ _ _)
 refine bQ _ rfl J (cN (q.eW (n:=g+20) J (bX J J (ac J)) .nil ((q.bu p).go p Gh (aa J) (aa J) (aa J) (iO lv (ac J)) (λz=>no (.inl λr a=>qy (z r a))) λs1 h1 v1 u1 _ w1 ⟨XL,Y8,jn⟩=>oY (λn L h'=>∃j v o2 o3 o4 l,L=[some (.ref c.P),some v,o2,o3,o4]/\Bu c B s h [] 0 0 0 j h'/\ru c B f s1.i j.i l/\Nr c B j/\PV c s.i h' v l/\n=c.aw.length-j.i) _ (Qj s1 v1 _ _ (wU _ 0 J u1 .nil XL ⟨(.inl ⟨rfl,Y8⟩),rfl⟩)) λn L h' Fr=>GV Fr λj v o2 o3 KK=>?_)));refine wY KK λo4 l e1 u sp nr af=>?_;refine cv af λpv en=>?_
 refine I e1 (dO am _ (λQ q=>(aW am J q)) (dG J ?_))
 have U:=u.push (.bq [.int (c.ln j),.int (c.K j.i)])
 refine pY (.bq (.cons (u.q.ps.line J) (.cons (u.q.ps.kind (n:=g+19) J) .nil))) lk J ?_
 have G:c.K j.i∈cO .behind->(∀r,An c .field B f j.i r->r=ax)->(∀r,An c .args B f j.i r->r=ax)->X:=λa b d=>no (.inr (tU _ _ l w1 jn sp a ⟨b,d⟩))
 have C:∀(M:St) (x:H) (N:V) (o2 o3 o4:av V) (l2:D),Bu c B s h [] 0 0 0 M x->ru c B f s1.i M.i l2->Nr c B M->PV c s.i x N l2->j.i<M.i->∃m,m<n/\∃j v Ty ST LE l,([some (V.ref c.P),some N,o2,o3,o4]:bS)=[some (.ref c.P),some v,Ty,ST,LE]/\Bu c B s h [] 0 0 0 j x/\ru c B f s1.i j.i l/\Nr c B j/\PV c s.i x v l/\m=c.aw.length-j.i:=λM x N o2 o3 o4 l2 Z GT F IO lt=>⟨_,oU (by assumption) (by assumption) (gC 0x36080b8206f040 J lt Z.q.ps.pE),M,N,o2,o3,o4,l2,rfl,Z,GT,F,IO,rfl⟩
 by_cases T:c.K j.i=46
 ·have w:c.K j.i∈cO .field:=by refine I T ?_;exact aa J
  refine bT (bj (.lo J) .co (iA T)) (cN (U.q.ps.eW (n:=g+20) J (bX J J (ac J)) (.cons (.lo J) .nil) (U.TF (f:=f) p (Gf v) (I T (aa J)) (aa J) (aa J) (aa J) (iO lv (ac J)) (λz=>G (nz w).2 (λr a=>qy (z r (Dw a T))) λr a=>a.none J (nz w).1) λM x N Z z2 w2 aj=>i7 aj λnd F x_=>?_)))
  have E:=λr (a:An c .field B f j.i r)=>w2 r (Dw a T)
  exact C M x N _ _ _ 1 Z (sp.fld w E) F (.inr (.inl ⟨rfl,nd⟩)) (W.lt u.q.ps.pE J E)
 ·refine bm (bj (.lo J) .co (ib T)) ?_
  by_cases S:c.K j.i=91
  ·have w:c.K j.i∈cO .field:=by refine I S ?_;exact aa J
   refine bT (bj (.lo J) .co (iA S)) (cN (gT .co (.lo J) (jb (.lo J) (dM (U.q.ps.eW (n:=g+20) J (bX J J (ac J)) .nil (U.TF (f:=f) p Gy (ao.mpr S) (aa J) (aa J) (aa J) (iO lv (ac J)) (λz=>G (nz w).2 (λr a=>qy (z r (Dv a S))) λr a=>a.none J (nz w).1) λM x N Z z2 w2 F=>dP (ci (n:=g+18) _ ?_)))))))
   have E:=λr (a:An c .field B f j.i r)=>w2 r (Dv a S)
   exact C M _ _ _ _ _ 1 ((Z.push _).push _) (sp.fld w E) F (.inr (.inl ⟨rfl,_,_,_,rfl,lk⟩)) (W.lt u.q.ps.pE J E)
  ·refine bm (bj (.lo J) .co (ib S)) ?_
   by_cases k3:c.K j.i=58
   ·have w:c.K j.i∈cO .args:=by refine I k3 ?_;exact aa J
    have nf:=λr (a:An c .field B f j.i r)=>a.none J (mB w).1
    refine bT (bj (.lo J) .co (iA k3)) (U.skip J k3 (aa J) λh3 u3=>cN (u3.name (f:=f) (A0:=An c .args B f j.i) J (λe a=>I9 a k3) (λz=>G (mB w).2 nf z) λnm h4 x_ Y w4=>cN (gT .co (Y.q.ps.line J) (jb (.lo J) (jb (.lo J) (dM (Y.q.ps.eW (n:=g+20) J (bX J J (ac J)) .nil (Gg B f _ h4 _ (.next u3.o.sy) Y.q.ps (p.go Y.o (aa J) (aa J) (aa J)) (I Y.o.d (iO lv (ac J))) (λz=>G (mB w).2 nf λr a=>z r (w4 r a).iz) λs5 h5 v5 z5 o5 w5 R=>dP (ci (n:=g+18) _ ?_)))))))))
    have E:=λr (a:An c .args B f j.i r)=>w5 r (w4 r a).iz
    exact C s5 _ _ _ _ _ 2 ((((Y.mK z5 o5).push _).push _).z (aa J) (aa J) (aa J)) (sp.arg w E) R (.inr (.inr ⟨rfl,.inr (.i lk)⟩)) (W.lt u.q.ps.pE J E)
   ·refine bm (bj (.lo J) .co (ib k3)) ?_
    have uf:=U.push (.bq (([40,286,123]:ag aF).map .int))
    have Id:=(pv.ii (o:= .bq [.int (c.ln j),.int (c.K j.i)])).ii (o:= .bq (([40,286,123]:ag aF).map .int))
    refine m8 (.cj (.lo J) (.bq (.cons .co (.cons .co (.cons .co .nil)))) (.s7 (mz (is:=[40,286,123]) lk))) (λhk=>?_) λhk=>?_
    ·have mk:=cg.mp hk
     have O:∀k∈([40,286,123]:ag aF),k∈cO .args/\k∈([286,123,40]:ag aF):=aa J
     have w:=(O _ mk).1
     refine cN (gT .co (.lo J) (jb (.lo J) (dM (uf.q.ps.eW (n:=g+20) J (bX J J (ac J)) .nil (Gg B f j _ _ nr uf.q.ps (p.go u.o (aa J) (aa J) (aa J)) (I u.o.d (iO lv (ac J))) (λz=>G (mB w).2 (λr (a:An c .field B f j.i r)=>a.none J (mB w).1) λr a=>z r (DF a (O _ mk).2)) λs5 h5 v5 z5 o5 w5 R=>dP (ci (n:=g+18) _ ?_))))))
     have E:=λr (a:An c .args B f j.i r)=>w5 r (DF a (O _ mk).2)
     exact C s5 _ _ _ _ _ 2 (((uf.mK z5 o5).push _).push _) (sp.arg w E) R (.inr (.inr ⟨rfl,.inl (.i lk)⟩)) (W.lt u.q.ps.pE J E)
    ·refine cJ (.lo J) (GE j _ v s1.i l uf.q.sp u.o w1 jn sp (λm=>?_) Id)
     have:c.K j.i=46\/c.K j.i=91\/c.K j.i=58\/c.K j.i∈([40,286,123]:ag aF):=by
      have m:c.K j.i∈([46,91,58,286,123,40]:ag aF):=m
      simp only [aZ,fX,vH] at m⊢
      exact VL m
     rcases this with z|z|z|z
     ·exact T z
     ·exact S z
     ·exact k3 z
     ·rw[cg.mpr z] at hk;cases hk
end
def Gn(c:Pc)(X:Prop)(g:D):Prop:=∀(a:aD) (B:D->aD) (f:Fg) (s:St) (h:H) (Q:P1) (e:aF),(∃n:D,e=n/\n<=5000)->Pa c s h->i9 c B f 0 s->s.made+1+(if a then 1 else 0)<=c.sM s.i->10*(40-s.d)+1<=g->((∀x,An c .body B f s.i x->x=ax)->X)->(∀b j v,Sp c s h b j->fZ c B s b (-2) (-1-if a then 1 else 0) 0->(∀x,An c .body B f s.i x->x=ae b.i)->Q v j)->P.call am X (g+20) (.fn 95) [.ref c.P,.bool a,.int e] Q h
section
variable{c:Pc}{X:Prop}{g n:D}{B:D->aD}{f:Fg}{i j C A l:D}{x:av D}{s:St}{h y:H}{L:bS}{es:ag E}{Q:P1}{ps:ag Pp}
theorem Aw.io(w:Aw c (.t .io::ps) B f i x)(h:c.K i=279):(f.va=am->Aw c ps B f (i+1) x)/\(f.va=ai->x=ax):=by
 refine cs w λn e=>?_;refine dN e λd b a=>?_;have b:ae (if c.K i=279/\f.va=am then ae (i+1) else ax)=ae d:=b;refine⟨λz=>?_,λz=>?_⟩
 ·rw[cw ⟨h,z⟩] at b;revert a;exact sb (si b) λa=>⟨n,a⟩
 ·rw[bG λq=>by rw[z] at q;cases q.2] at b;revert a;exact sb (si b) λa=>a
theorem PF.iU(q:PF c B f i)(m:c.K i∈[285,40])(w:An c .iU B f i x):Fq c SU x:=by
 refine aM ((w.f6 [285,40] J m J).dY) λt e a=>?_;rcases q with q|⟨A,j,l,q,_,g,b,o,p⟩
 ·revert a;exact I (q _ e) λa=> .of a
 ·revert a;refine I (q _ e) λa=>aM ((g.hb _ _ (Aw.eM a)).gp) λh a2 d=>cs (id a2) λn s=>?_;have r:h=ax:=by
   have:c.K j∈[46,91]\/c.K j∈[58,286,123,40]:=by
    have b:c.K j∈([46,91,58,286,123,40]:ag aF):=b
    simp only [aZ,fX,vH] at b⊢
    exact VJ b
   rcases this with m|m
   ·exact o _ (a2.f6 [46,91] J m J).iz
   ·exact p _ (a2.f6 [58,286,123,40] J m J).iz
  revert d;refine I r λd=>?_;by_cases k:c.K j=40
  ·exact .of (Aw.jZ d|>.2 k)
  ·exact I ((Aw.jZ d|>.1 k).dq) λC z=>sb (si z) (((aa J):∀k∈([46,91,58,286,123,40]:ag aF),k≠40->SU k=am) _ b k)
theorem HT(W:oA c)(Gt:Gc c X g (An c .table) SN 4 (-2) 76 [] (WN c))(Gb:Gn c X g)(Gq:Gp c X g):Gc c X (g+1) (An c .iU) SU 7 (-2) 70 [] W0:=λB f s h Q q p lv no M=>by
 refine(?_ :P.call am X ((g+20)+1) _ _ _ _);refine aM (q.cur (X:=X) (n:=g+20) (L:=[some (.ref c.P),none,none,none]) J) λG ec gc=>?_;have u:=(q.bu p).push (.bq [.int (c.ln s),.ref G]);have gk:=bH (z:= .bq [.int (c.ln s),.ref G]) gc;have F:∀{L:bS},L[2]? =some (some (.ref G))->Ev (Cn X (g+20)) (.at (.l 2) 12) L (h++[O.bq [.int (c.ln s),.ref G]]) (.int (c.K s.i)) (h++[O.bq [.int (c.ln s),.ref G]]):=λl2=> .at (.lo l2) (.i gk J J);have N:∀(v:V) (s':St) (h':H),Bu c B s h [] 0 0 0 s' h'->s'.i=s.i->c.K s.i≠287->wD (c.K s.i)=0/\wM (c.K s.i)=0->(∀x,An c .iU B f s.i x->x=some (s.i+1))->cD (Cn X (g+20)) (WQ.drop 4) [some (.ref c.P),some (.int (c.ln s)),some (.ref G),some v] (rt Q) h':=λv s' h' u e ne w0 w=>by
  refine oJ (n:=g+10) u.q.ps J (I e ne) λx_ y z2=>?_;have j:=u.nx z2 (k:=c.K s.i) (I e J);rw[w0.1,w0.2] at j;exact cJ (.lo J) (M _ y v j.q.sp (j.bL (aa J) (aa J) (aa J)) (λx a=>I (w x a) (I (aQ e) J)) trivial)
 have nd:∀{L:bS} {kn:ag D} {es:ag E} {vs:ag V},L[1]? =some (some (.int (c.ln s)))->mC (Cn X (g+20)) es L (h++[O.bq [.int (c.ln s),.ref G]]) vs (h++[O.bq [.int (c.ln s),.ref G]])->∃v h',Ev (Cn X (g+20)) (.ca (.c (.cls 5)) [.c (.str kn),.l 1,.eS es]) L (h++[O.bq [.int (c.ln s),.ref G]]) v h'/\Bu c B s h [] 0 0 0 s h':=λl1 ev=>(dO _ _ (.cls (.cons .co (.cons (.lo l1) (.cons (.eS ev) .nil))) (ci (n:=g+18))) ((u.push _).push _));refine bQ _ rfl J (pY (.bq (.cons (q.line J) (.cons ec .nil))) lk J ?_);by_cases k1:c.K s.i=123
 ·exact bT (bj (F J) .co (iA k1)) (fQ (u.q.ps.eW (n:=g+20) J (bX J J (ac J)) .nil (u.go p Gt (aa J) (aa J) (aa J) (iO lv (ac J)) (λz=>no λx a=> .of (qy (z x (a.f6 [123] J (ao.mpr k1) J).iz))) λs2 y v j x_ w2 x_=>M s2 y v j.q.sp j.o (λx a=>w2 x (a.f6 [123] J (ao.mpr k1) J).iz) trivial)))
 refine bm (bj (F J) .co (ib k1)) ?_;by_cases Z:c.K s.i=265
 ·have w1:=λx (a:An c .iU B f s.i x)=>((a.f6 [265] J (ao.mpr Z) J).gJ Z).iz;refine bT (bj (F J) .co (iA Z)) (u.skip J Z (aa J) λy j=>fQ (j.q.ps.eW (n:=g+20) J (bX J J (ac J)) (.cons .co (.cons (j.q.ps.line J) .nil)) (Gb ai B f _ y _ _ (Pc.qk q.ok) j.q.ps (p.go j.o (aa J) (aa J) (aa J)) ?_ (I j.o.d (iO lv (ac J))) (λz=>no λx a=> .of (z x (w1 x a))) λs3 h3 v z3 o3 w3=>?_)))
  ·refine(?_ :(s.made:aF)+1+0<=c.sM (s.i+1));exact I (show c.sM (s.i+1)=c.sM s.i+wM 265 by refine(?_ :c.sM s.i+wM (c.K s.i)=_);exact I Z J) (I (show wM 265=1 from J) (mN 0x35a2b241a2b228ac9ac0b81ac0 J p.b))
  ·exact M s3 h3 v (j.q.to z3).sp ((j.o.trans o3).nh (aa J) (aa J) (aa J)) (λx a=>w3 x (w1 x a)) trivial
 refine bm (bj (F J) .co (ib Z)) ?_;by_cases Y:c.K s.i=284
 ·exact cY (nd (L:=[some (.ref c.P),some (.int (c.ln s)),some (.ref G),none]) (kn:=[110,117,109,98,101,114]) (es:=[.at (.l 2) 10]) J (.cons (.at (.lo J) (.i gk J J)) .nil)) λv y e2 j=>bT (bj (F J) .co (iA Y)) (cZ e2 (N v s y j J (I Y (aa J)) (I Y (aa J)) λx a=>((a.f6 [284] J (ao.mpr Y) J)|>λR=>cs R λn e=>sh (wL e (show c.K s.i∈_ from I Y (aa J))))))
 refine bm (bj (F J) .co (ib Y)) ?_;by_cases U:c.K s.i=286
 ·exact cY (nd (L:=[some (.ref c.P),some (.int (c.ln s)),some (.ref G),none]) (kn:=[115,116,114,105,110,103]) (es:=[.at (.l 2) 10]) J (.cons (.at (.lo J) (.i gk J J)) .nil)) λv y e2 j=>bT (bj (F J) .co (iA U)) (cZ e2 (N v s y j J (I U (aa J)) (I U (aa J)) λx a=>((a.f6 [286] J (ao.mpr U) J).gJ U).dq))
 refine bm (bj (F J) .co (ib U)) ?_;by_cases T:c.K s.i=269
 ·exact cY (nd (L:=[some (.ref c.P),some (.int (c.ln s)),some (.ref G),none]) (kn:=[110,105,108]) J .nil) λv y e2 j=>bT (bj (F J) .co (iA T)) (cZ e2 (N v s y j J (I T (aa J)) (I T (aa J)) λx a=>((a.f6 [269] J (ao.mpr T) J)|>λR=>cs R λn e=>sh (wL e (show c.K s.i∈_ from I T (aa J))))))
 refine bm (bj (F J) .co (ib T)) ?_;have nk:∀k∈VK,k≠275/\k≠263:=aa J;refine bm (bj (F J) .co (ib (nk _ (W.v s.i)).1)) (bm (bj (F J) .co (ib (nk _ (W.v s.i)).2)) ?_);by_cases S:c.K s.i=279
 ·have w1:=λx (a:An c .iU B f s.i x)=>(a.f6 [279] J (ao.mpr S) J).io S;refine bT (bj (F J) .co (iA S)) (ua (so ((show Et (Cn X (g+20)) _ _ _ s.hd.va _ from .of J (u.q.ps.sc J J λna=>rfl) J) _ ?_)));cases hv:s.hd.va with
  |false=>
   exact dG (aa J) (lW (n:=g+14) u.q.ps J (no λx a=> .of ((w1 x a).2 (p.va.trans hv))) (ac J))
  |true=>
   refine cM (aa J) (cY u.q.ps.hd λna ys g1 x_=>?_);have j:=u.mK (u.q.ps.Eg s.hd.dB s.hd.va ai) (.refl u.o.sy);refine aM (j.q.ps.cur (X:=X) (n:=g+20) (L:=[some (.ref c.P),some (.int (c.ln s)),some (.ref G),none]) J) λm3 aj af=>cL .co (u.q.ps.at J J J) (Pa.BU (t:=s.hd) g1 J) (cZ (.cls (.cons .co (.cons (.lo J) (.cons (.eS .nil) .nil))) (ci (n:=g+18))) (N _ s _ ((j.push _).push _) J (I S (aa J)) (I S (aa J)) λx a=>((w1 x a).1 (p.va.trans hv)).dq))
 refine bm (bj (F J) .co (ib S)) ?_;by_cases k7:c.K s.i∈[285,40]
 ·refine fQ (u.q.ps.eW (n:=g+20) J (bX J J (ac J)) .nil (Gq B f s _ _ u.q.ps p (iO lv (ac J)) (λz=>no λx a=>z.iU k7 a) λs2 y v A l z2 o2 w2 jn sp nb x_=>M s2 y v (u.q.to z2).sp o2 (λx a=>?_) trivial));refine aM ((a.f6 [285,40] J k7 J).dY) λr1 a1 e1=>?_;revert e1;exact I (w2 _ a1) λe1=>(((sp.hb _ _ (Aw.eM e1)).hF J nb).jZ.1 λz=>nb (I z (aa J))).dq
 ·refine fQ (u.q.ps.eW (n:=g+20) J (bX J J (ac J)) .nil (Gq B f s _ _ u.q.ps p (iO lv (ac J)) (λz=>no λx a=> .of (a.none J λm=>?_)) λs2 y v A l z2 o2 w2 jn sp nb pv=>?_))
  ·have m:c.K s.i∈([284,269,286,279,123,265,285,40]:ag aF):=m;simp only [aZ,fX,vH] at m k7;exact VI k1 Z Y U T S m k7
  ·refine aM (W.A6 .head B f s.i q.pE) λr a x_=>?_;cases(a.none J k7).symm.trans (w2 r a)
end
noncomputable def Dn(c:Pc)(i:D):aD:=sx (gx c) (c.aw.length-i) i
section
variable{c:Pc}{X:Prop}{g n:D}{B:D->aD}{f:Fg}{i j:D}{b:av D}{s:St}{h:H}{ps:ag Pp}
theorem Dn.step(l:i<c.aw.length):Dn c i=if c.K i=41 then ai else if c.K i=279 then ug (gx c) (c.aw.length-(i+1)) (i+1) else Dn c (i+1):=by
 unfold Dn;exact I (NH l) J
theorem IQ(l:i<c.aw.length)(h:c.K i=41):ug (gx c) (c.aw.length-i) i=am:=by
 refine I (NH l) ((?_ :(if c.K i=41 then am else _)=am));exact dG h J
def Pw(c:Pc)(B:D->aD)(f:Fg)(ps:ag Pp):D->av D->Prop:=Aw c (.r .params .eG::tK 41::ps) B f
def Pm(c:Pc)(B:D->aD)(f:Fg)(j:D)(e:av D):Prop:=∃a,Ag c .name B f [] j a/\∀d,a=ae d->Aw c [.r .io .eG] B f d e
theorem Ix(w:An c .params B f i b)(h:c.K i=285):Pm c B f (i+1) b:=aM ((w.f6 [285] J (ao.mpr h) J).dY) λd e a=>aW d (Aw.eM ((e.only J).gJ h)) (λg z=>by revert a;exact I z λa=>a)
theorem Pm.name(w:Pm c B f j b)(h:c.K j=44)(g:c.K (j+1)=285):Pm c B f (j+2) b:=by
 refine aM w λd a e=>?_;exact aW d (a.step λk i=>(((i.only J).gJ h).gJ g).dq) e
theorem Pm.hF(w:Pm c B f j b)(h:c.K j≠44):b=ae j:=by
 refine aM w λi a e=>?_;refine aM (e j (a.hF J λm=>h (ao.mp m)).dq).eG λk g d=>?_;revert d;exact I (g.none J λm=>h (ao.mp m)) λd=>d.dq
theorem Pm.dq(w:Pm c B f j b)(h:c.K j=44)(k:c.K (j+1)≠285):∃d,An c .io B f j d/\b=ae (d.getD j):=by
 refine aM w λl a e=>?_;refine aM a.gp λd i g=>?_;revert g;exact I (((i.only J).gJ h).nk k) λg=>aM ((e j (Aw.dq g)).eG) λd i g=>aW d i g.dq
def Pl(c:Pc)(i j:D):Prop:=Dn c i=Dn c j/\((j=i/\c.K i≠41)\/∃a,j=a+1/\c.K a=44/\∀B f d,An c .params B f i d->Pm c B f a d)
theorem Pl.name(w:Pl c i j)(h:c.K j=285):Dn c i=Dn c (j+1)/\∀B f d,An c .params B f i d->Pm c B f (j+1) d:=by
 refine⟨w.1.trans ?_,?_⟩
 ·exact I (Dn.step (Pc.lt (I h (aa J)))) (cM (by exact I h (aa J)) (cM (by exact I h (aa J)) J))
 ·rcases w.2 with⟨rfl,_⟩|⟨e,rfl,k,q⟩
  ·exact λB f d a=>Ix a h
  ·exact λB f d a=>(q B f d a).name k h
theorem Pl.Sx(d:Dn c i=Dn c j)(q:∀B f a,An c .params B f i a->Pm c B f j a)(h:c.K j=44):Pl c i (j+1):=⟨d.trans (I (Dn.step (Pc.lt (I h (aa J)))) (cM (by exact I h (aa J)) (cM (by exact I h (aa J)) J))),.inr (bQ j J h q)⟩
theorem Pl.uK(w:Pl c i j)(r:c.K j≠285)(p:c.K j≠279)(a:Pw c B f ps i b):b=ax:=by
 refine aM (Aw.eG a) λo s d=>?_;rcases w.2 with⟨rfl,k⟩|⟨h,rfl,k,q⟩
 ·cases s.none J λm=>by
   rcases aZ.mp m with m|m
   ·exact r m
   ·exact p (ao.mp m)
  exact d.nk k
 ·revert d;refine M7 o ((q B f o s).dq k r) λu a2=>λd=>cs ((a2.only J).gJ k) λn e=>dN e λt g l=>?_;have g:ae (if c.K (h+1)=279/\f.va=am then ae (h+1+1) else ax)=ae t:=g;rw[bG λz=>p z.1] at g;revert l;refine sb (si g) λl=>?_;revert d;exact I l λd=>Aw.nk d (by refine(?_ :c.K h≠41);exact I k (aa J))
theorem Pl.io(w:Pl c i j)(h:c.K j=279):(c.K (j+1)=41->Dn c i=am/\∀B f ps b,f.va=am->Pw c B f ps i b->Aw c (tK 41::ps) B f (j+1) b)/\(c.K (j+1)≠41->∀B f ps b,Pw c B f ps i b->b=ax):=by
 have l:c.K j≠285:=by refine I h ?_;exact aa J
 have r:=Pc.lt (I h (aa J))
 have g:∀B f ps b,Pw c B f ps i b->(f.va=am->Aw c (tK 41::ps) B f (j+1) b)/\(f.va=ai->b=ax):=λB f ps b a=>by
  refine aM (Aw.eG a) λp m e=>?_
  rcases w.2 with⟨rfl,k⟩|⟨s,rfl,k,q⟩
  ·have d:=(m.f6 [279] J (ao.mpr h) J).io h
   refine⟨λz=>?_,λz=>?_⟩
   ·revert e;exact I ((d.1 z).dq) λe=>e
   ·revert e;exact I (d.2 z) λe=>e.nk k
  ·refine aM ((q B f p m).dq k l) λt a2 n=>?_;revert m e;refine I n λm e=>?_
   have d:=((a2.only J).gJ k).io h
   refine⟨λz=>?_,λz=>?_⟩
   ·revert e;exact I ((d.1 z).dq) λe=>e
   ·revert e;exact I (d.2 z) λe=>Aw.nk e (by refine(?_ :c.K s≠41);exact I k (aa J))
 refine⟨λz=>⟨?_,λB f ps b v a=>(g B f ps b a).1 v⟩,λz B f ps b a=>?_⟩
 ·exact I w.1 (I (Dn.step r) (cM (by exact I h (aa J)) (dG h (IQ (Pc.lt (I z (aa J))) z))))
 ·cases o:f.va with
  |true=>exact((g B f ps b a).1 o).nk z
  |false=>exact(g B f ps b a).2 o
def Gr(c:Pc)(X:Prop)(g:D):Prop:=∀(B:D->aD) (s:St) (h:H) (Q:P1),Pa c s h->Sy c B s->s.hd.va=ai->s.made+1<=c.sM s.i->s.hd.n<=c.sM s.i->
 ((∀B f ps b,Pw c B f ps s.i b->b=ax)->X)->
 (∀s' h' m ys,Sp c s h s' h'->fZ c B s {s' with hd:={s'.hd with va:=ai}} 0 (if s'.hd.va then 0 else-1) (if s'.hd.va then 0 else-1)->(c.K s'.i=41->Dn c s.i=s'.hd.va/\∀B f ps b,f.va=s'.hd.va->Pw c B f ps s.i b->Aw c (tK 41::ps) B f s'.i b)->(c.K s'.i≠41->∀B f ps b,Pw c B f ps s.i b->b=ax)->h.length<=m->h'[m]? =ae (.list ys)->Y7 ys<=100->vm h' ys->Q (.ref m) h')->P.call am X (g+20) (.fn 96) [.ref c.P] Q h
end
section
variable{c:Pc}{X:Prop}{g n:D}{B:D->aD}{f:Fg}{i j:D}{e:av D}{s:St}{h:H}{ps:ag Pp}
noncomputable def St.nv(s:St):St:={s with hd:={s.hd with va:=ai}}
theorem HW(W:oA c):Gr c X (g+1):=λB s h Q q sy y mk nk no A=>by
 refine(?_ :P.call am X ((g+20)+1) _ _ _ _)
 have u0:Bu c B s h [(h.length,.list [])] 0 0 0 s (h++[.list []]):=⟨q.pz.new (.list []),.refl sy⟩
 refine bQ _ rfl J (cZ (.eS .nil) ?_)
 by_cases x:c.K s.i=41
 ·refine bT (bj (u0.q.ps.kind (n:=g+19) J) .co (iA x)) (cJ (.eS .nil) (A s _ _ [] (u0.push _).q.sp ((fZ.refl sy).nh (cy _) (by exact I y (aa J)) (by exact I y (aa J))|>λo=>(⟨o.d,o.lp,y.symm,o.cS,⟨o.sy.iR,o.sy.rest⟩,o.le,o.ca,o.cb,o.ce⟩)) (λZ=>⟨?_,λB f ps e Z a=>?_⟩) (λz=>cq x z) (I au (cH _ _)) lk (bU _) nofun))
  ·exact I (Dn.step (Pc.lt (I x (aa J)))) (dG x (I y J))
  ·refine aM (Aw.eG a) λr1 T r=>?_
   revert r;exact I (T.none J (I x (aa J))) λr=>r
 refine bm (bj (u0.q.ps.kind (n:=g+19) J) .co (ib x)) ?_
 have S:∀(l:St) (R:H) (j:ag V) (k:D),Pz c s h [(h.length,.list j)] l R->fZ c B s l.nv 0 k k->Y7 j<=k+(if l.hd.va then 0 else 1)->(∀v∈j,∃b,v= .bytes b)->(c.K l.i=41->Dn c s.i=l.hd.va/\∀B f ps e,f.va=l.hd.va->Pw c B f ps s.i e->Aw c (tK 41::ps) B f l.i e)->(c.K l.i≠41->∀B f ps e,Pw c B f ps s.i e->e=ax)->cD (Cn X (g+20)) (WG.drop 3) [some (.ref c.P),some (.ref h.length)] (rt Q) R:=λl R j k E o U Y y1 y2=>by
  have cb:c.sM s.i-s.made+k<=c.sM l.i-l.made:=o.cb
  have ce:c.sM s.i-s.hd.n+k<=c.sM l.i-l.hd.n:=o.ce
  have mm:=W.m l.i
  have aj:(Y7 j)<=k+1:=by split at U<;>lia
  have xi:(if l.hd.va then(0:aF) else-1)<=k-(Y7 j):=by
   cases hz:l.hd.va with
   |true=>rw[hz,cw J] at U;exact dG J (dw 0x35aab02b06b22ea08040 J U)
   |false=>rw[hz,bG aC] at U;exact cM aC (dw 0xd6aac0ac1b2b26ea09040 J aj)
  have pv:=E.pv _ (.head _)
  refine fQ (E.ps.eW (n:=g+20) J (bX J J (ac J)) (.cons (.lo J) .nil) (pZ (n:=g+19) E.ps pv.1 pv.2 Y (by lia) (by lia) λh3 m ys z3 hm gm G ly td=>A (l.ql (Y7 j)) h3 m ys (E.to z3).sp ((o.trans (fZ.ql (s:=l.nv) (k:=(Y7 j)) o.sy)).nh (by lia) (f9 xi (dw 0xd68b2b06b02aac1ac0 J)) (f9 xi (dw 0xd68b2b06b02aac1ac0 J))) y1 y2 (az E.nx.sz hm) gm (by lia) td))
 refine oY (λn L h'=>∃p j,L=[some (.ref c.P),some (.ref h.length)]/\Bu c B s h [(h.length,.list j)] 0 (Y7 j) (Y7 j) p h'/\Pl c s.i p.i/\(∀v∈j,∃b,v= .bytes b)/\n=c.aw.length-p.i) _ (wU s ([]) J u0 ⟨rfl,.inl ⟨rfl,x⟩⟩ nofun rfl) λn L h' af=>wY af λp j r u pl Y en=>?_
 refine I r ?_
 have O:=u.o.va.trans y
 refine dO am _ (λQ q=>(aW am J q)) (dG J ?_)
 by_cases N:c.K p.i=279
 ·refine bT (bj (u.q.ps.kind (n:=g+19) J) .co (iA N)) (u.skip J N (aa J) λR w=>cY w.q.ps.hd λna ys g1 Z=>?_)
  have pd:=pl.io N
  refine cL .co (w.q.ps.at J J J) (Pa.BU (t:=(c.next p).hd) g1 J) (S _ _ j (Y7 j) (w.q.to (w.q.ps.Eg (c.next p).hd.dB am na)) (w.o.nh (aa J) (by refine(?_ :_<=((Y7 j):aF)+0);exact bO 0xd68ac8ac0ac0 J) (by refine(?_ :_<=((Y7 j):aF)+0);exact bO 0xd68ac8ac0ac0 J)|>λo=>(⟨o.d,o.lp,y.symm,o.cS,⟨o.sy.iR,o.sy.rest⟩,o.le,o.ca,o.cb,o.ce⟩)) (aE _) Y (λz=>?_) λz=>pd.2 z)
  exact cv (pd.1 z) λd1 d2=>⟨d1,λB f ps e v a=>d2 B f ps e v a⟩
 refine bm (bj (u.q.ps.kind (n:=g+19) J) .co (ib N)) ?_
 by_cases M:c.K p.i=285
 ·refine bm (bj (u.q.ps.kind (n:=g+19) J) .co (EC M)) (mD (wN (.lo J) (u.q.get (.head _)) (u.FU J M λG R Z w=>(bQ j (w.q.get (.head _)) ?_ ?_))))
  ·have:=u.o.cb
   have:=W.m p.i
   exact Ax 0x356227a0241bab80b12eaab084a2b06aac00ee0e8ac9ac0 J mk ‹c.sM s.i-↑s.made+↑(Y7 j)<=c.sM p.i-↑p.made› this
  ·have F:=pl.name M
   have u3:=w.ii (aE _) (.bytes G)
   have C:∀v∈j++[V.bytes G],∃b,v= .bytes b:=λv m=>by
    rcases dH.mp m with m|m
    ·exact Y v m
    ·exact⟨G,ao.mp m⟩
   have l1:(j++[V.bytes G]).length=Y7 j+1:=by refine I au ?_;rfl
   refine ua (so (u3.pI J (aa J) (λn1=>?_) λk4 h4 u4=>?_))
   ·refine dG (aa J) (S _ _ _ (Y7 j) u3.q (u3.o.nh (aa J) (by refine(?_ :_<=((Y7 j):aF)+0);exact bO 0xd68ac8ac0ac0 J) (by refine(?_ :_<=((Y7 j):aF)+0);exact bO 0xd68ac8ac0ac0 J)|>λo=>(⟨o.d,o.lp,y.symm,o.cS,⟨o.sy.iR,o.sy.rest⟩,o.le,o.ca,o.cb,o.ce⟩)) (I l1 (I (O) (aE _))) C (λz=>⟨?_,λB f ps e Z a=>?_⟩) λz B f ps e a=>?_)
    ·exact I F.1 (I (Dn.step (Pc.lt (by refine(?_ :c.K (p.i+1)≠287);exact I (z) (aa J)))) (dG (z) O.symm))
    ·refine aM (Aw.eG a) λr1 T r=>?_
     revert r;exact I ((F.2 B f r1 T).hF n1) λr=>r
    ·refine aM (Aw.eG a) λr1 T r=>?_
     revert r;exact I ((F.2 B f r1 T).hF n1) λr=>r.nk z
   ·exact cM (aa J) (⟨c.aw.length-(p.i+1+1),Q7 en (Pc.lt (I (k4) (aa J))),_,_,rfl,u4.z (aa J) (by rw[l1];show _<=((Y7 j):aF)+0+1;exact bO 0x35a2b268ac8ac0ae8240 J) (by rw[l1];show _<=((Y7 j):aF)+0+1;exact bO 0x35a2b268ac8ac0ae8240 J),Pl.Sx F.1 F.2 k4,C,rfl⟩)
 ·exact bT (bj (u.q.ps.kind (n:=g+19) J) .co (EB M)) (lW (n:=g+14) u.q.ps J (no λB f ps e a=>pl.uK M N a) (ac J))
end
noncomputable def nV:aF->aD:=λk=> !([260,261,262,276,287]:ag aF).contains k
def Gs(c:Pc)(X:Prop)(g:D):Prop:=∀(B:D->aD) (f:Fg) (s:St) (h:H) (Q:P1),Pa c s h->f.lp=decide (s.hd.dB≠0)->i9 c B f (-1) {s with d:=s.d+1}->10*(40-s.d)+0<=g->((∀r,An c .block B f s.i r->Fq c nV r)->X)->(∀y w v,Sp c s h y w->fZ c B s y 0 0 0->(∀r,An c .block B f s.i r->r=ae y.i)->Q v w)->P.call am X (g+20) (.fn 79) [.ref c.P] Q h
section
variable{c:Pc}{X:Prop}{g n:D}{B:D->aD}{f:Fg}{i j:D}{r:av D}{s y:St}{h w:H}{ps:ag Pp}{a b e:aF}{L:bS}{Q:P1}
theorem fZ.Xq{g:aF}(x:fZ c B (s.sub h g) y a b e):fZ c B s {y with hd:=s.hd,cS:=s.cS} a b 0:=⟨x.d,rfl,rfl,rfl,⟨x.sy.iR,x.sy.rest⟩,x.le,x.ca,x.cb,by refine(?_ :c.sM s.i-s.hd.n+0<=c.sM y.i-s.hd.n);exact Bi 0x35aab002a2b22aac006e081 J (md (c:=c) (x.le))⟩
theorem Si{C:Cy}{o e:E}{l:D}{f:ag V}(x:Ev C o L h (.ref l) h)(g:h[l]? =ae (.list f))(k:(wE C e).1 L (λv w=>∃m f i,v= .ref m/\w[l]? =ae (.list f)/\w[m]? =ae (.list i)/\m≠l/\Y7 f+Y7 i<=dW/\Q .none (w.set l (.list (f++i)))) h):(wE C (.me o 1001 [e])).1 L Q h:=x _ (by
 unfold rY;exact cM (aa J) (aW 1 (.list g (.inr (.inl J))) (cast (aL (λq=>(wE C e).1 L q h) (funext λv=>funext λw=>zM ⟨λc=>Ml c λm f i e a b d j=>cv j λl q=>(dO _ _ (by exact I e (.ext a b d l)) q),λc=>cY c λn n a q=>by cases a with|ext g k p l=>exact tU _ _ _ rfl g k p ⟨l,q⟩⟩)) k)))
theorem Bu.ql{j:St}{p:H}{d:ag (D×O)}{A:D}{names:ag V}(u:Bu c B j p d a b e s h)(W:oA c)(g:h[A]? =ae (.list names))(K:¬Mu c s A)(N:∀v∈names,∃b,v= .bytes b)(S:L[0]? =ae (ae (.ref c.P))){F:ag E}{C:H}(ev:mC (Cn X (g'+20)) F L C [.ref A] h)(G:Pa c s C)(U:s.made+((Y7 names):aF)<=c.sM s.i+1)(ce:s.hd.n+((Y7 names):aF)<=c.sM s.i+1)
  (k:∀w f x,Bu c B j p d (a+0) (b+ -((Y7 names):aF)) (e+ -((Y7 names):aF)) (s.ql (Y7 names)) w->h.length<=f->w[f]? =ae (.list x)->¬Mu c s f->Y7 x=Y7 names->vm w x->Q (.ref f) w):(wE (Cn X (g'+20)) (.me (.l 0) 103 F)).1 L Q C:=by
 have:=W.m s.i;exact G.me S J J ev (pZ (n:=g'+19) u.q.ps g K N (JO 0x35814a0102eae02c2ba8ac90a8ac1ac0 J ce this) (JO 0x358cba0102eae02c2ba8ac90a8ac1ac0 J U this) λw f x z l T M R t=>k w f x (u.to z (.ql u.o.sy)) l T M R t) (ac J)
theorem Bg{k m:D}(z:Mu c (s.ql k) m):Mu c s m:=B1 (t:=(s.ql k).hd) (λa=> .inr (.inr (aW _ (.head _) a))) (z)
theorem Pz.add{b:St}{d:H}{a:ag (D×O)}{m:D}{o:O}(q:Pz c b d a s h)(g:h[m]? =ae o)(e:¬Mu c s m):Pz c b d ((m,o)::a) s h:=⟨q.ps,q.nx,λp z=>by
 rcases aZ.mp z with rfl|z
 ·exact⟨g,e⟩
 ·exact q.pv p z⟩
theorem Cs(W:oA c)(Za:Gr c X g)(Gq:Gs c X g):Gn c X (g+1):=λE B f s h Q G ST q p mk lv no IO=>by
 refine(?_ :P.call am X ((g+20)+1) _ _ _ _);refine bQ _ rfl J (Rr (n:=g+18) q J (.lo J) (dw 0x3670e06f001ba0280 J (p.XC W (aa J)) p.o) λh1 z1=>?_);have w0:=λr (a:An c .body B f s.i r)=>a.only J;have u1:Bu c B (s.sub h G) h1 [] 0 0 0 (s.sub h G) h1:=⟨z1.1.pz,.refl (⟨p.sy.iR,p.sy.rest⟩)⟩;have s0:=(md (c:=c) (bU s.i));refine u1.q.ps.eW (n:=g+20) J (bX J J (ac J)) (.cons .co .nil) (xO (n:=g+9) u1.q.ps J (aa J) (λz=>no λr a=>(w0 r a).nk z) λk0 h2 z2=>?_);have k0:=k0;have u2:=u1.nx z2 k0;have w2:∀r,An c .body B f s.i r->Pw c B ⟨ai,Dn c s.i⟩ [oR .block,tK 262] (s.i+1) r:=λr a=>(w0 r a).gJ k0;have R:∀(s3:St) (h3:H) (m1:D) (M:ag V),Bu c B (s.sub h G) h1 [(m1,.list M)] 2 (-(if E then 1 else 0)) (-(if E then 1 else 0)) s3 h3->s3.i=s.i+1->s3.hd.va=ai->Y7 h1<=m1->Y7 M<=1->cD (Cn X (g+20)) (Q2.drop 3) [some (.ref c.P),some (.bool E),some (.int G),some (.ref m1),none,none,none,none,none] (rt Q) h3:=λs3 h3 m1 M F ei LE lm lx=>by
  refine mD (Si (.lo J) (F.q.get (.head _)) (F.q.ps.eW (n:=g+20) J (bX J J (ac J)) .nil (Za B s3 h3 _ F.q.ps F.o.sy LE (za 0xd44a2b26b06eaab044a2c0aaac00ee0e80a8ac9ac0 J mk F.o.cb) (za 0x3512b06eaab044a2c0aaac80ee0e80a8ac9ac0 J mk F.o.ce) (λz=>no λr a=>z B _ _ r (I ei (w2 r a))) λu h4 m2 ys z4 o4 y1 y2 Ty Y8 ly td=>(tU m2 M ys J ((F.q.to z4).get (.head _)) Y8 ?_ ⟨(by exact dw 0xd5889e809a0102e70e06e240 J lx ly),?_⟩))))
  ·exact fM (cQ (j4 (F.q.get (.head _))) Ty)
  have q5:=(F.q.to z4).wZ (ys:=M++ys) lm nofun;have S:fZ c B (s.sub h G) u.nv 2 (-(if E then 1 else 0)+if u.hd.va then 0 else-1) (-(if E then 1 else 0)+if u.hd.va then 0 else-1):=(F.o.trans o4).nh (aa J) (cy _) (cy _);refine cZ .co ?_;have N:∀(j:St) (h6:H) (e:ag (D×O)) (S:av V),Pz c (s.sub h G) h1 e j h6->fZ c B (s.sub h G) j.nv 2 (-1-if E then 1 else 0) (-1-if E then 1 else 0)->j.i=u.i->j.hd.va=u.hd.va->(j.hd.va=am->∃t a b,S=some (.ref t)/\(t,.bq [a,b])∈e)->cD (Cn X (g+20)) (Q2.drop 6) [some (.ref c.P),some (.bool E),some (.int G),some (.ref m1),some .none,S,none,none,none] (rt Q) h6:=λj h6 e S q6 op af GE hj=>by
   refine q6.ps.eW (n:=g+20) J (bX J J (ac J)) (.cons .co .nil) (xO (n:=g+9) q6.ps J (aa J) (λz=>no λr a=>y2 (I (aQ af) z) B _ _ r (I ei (w2 r a))) λk6 h7 z7=>cv (y1 (I (aQ af) k6)) λdv w6=>?_);have fv:=(show Dn c s.i=Dn c (s.i+1) by exact I (Dn.step (Pc.lt (I k0 (aa J)))) (cM (by exact I k0 (aa J)) (cM (by exact I k0 (aa J)) J))).trans ((I (aQ ei) dv:Dn c (s.i+1)=u.hd.va).trans GE.symm);have w7:∀r,An c .body B f s.i r->Aw c [oR .block,tK 262] B ⟨ai,Dn c s.i⟩ (j.i+1) r:=λr a=>(w6 B ⟨ai,Dn c s.i⟩ [oR .block,tK 262] r (fv.trans GE) (I ei (w2 r a))).gJ (I (aQ af) k6)|>λa=>by rw[<-af] at a;exact a
   have Y:=q6.to z7;have K:fZ c B (s.sub h G) (c.next j).nv 0 (-1-if E then 1 else 0) (-1-if E then 1 else 0):=(op.trans (fZ.next (s:=j.nv) op.sy k6)).nh (aa J) (by refine(?_ :_<=_+(0:aF));exact j5 0xd68ac8a80b2b26a02cac9 J) (by refine(?_ :_<=_+(0:aF));exact j5 0xd68ac8a80b2b26a02cac9 J);have dd:=op.d;have p7:i9 c B ⟨ai,Dn c s.i⟩ (-1) {c.next j with d:=(c.next j).d+1}:=⟨⟨K.sy.iR,K.sy.rest⟩,fv,by refine(?_ : -1<=c.sD (j.i+1)-((j.d+1:D):aF));exact MV 0x35aaba09043b2b26eaab002ac8baaac10e8ac8aab002 J K.ca p.d,by refine(?_ :(j.made:aF)<=c.sM (j.i+1));exact za 0xd44ac1baaac1128a82b2b26aac00ee0e80a8ac9ac0 J mk K.cb,by refine(?_ :(j.hd.n:aF)<=c.sM (j.i+1));exact za 0xd44ac1baaac1128a82b2b26aac80ee0e80a8ac9ac0 J mk K.ce,by refine(?_ :(Y7 j.cS)<j.d+1);exact I (op.cS) (I dd (Nat.succ_lt_succ p.o)),by refine(?_ :j.hd.dB<=_);exact I (op.lp) (bU _)⟩;refine cN (Y.ps.eW (n:=g+20) J (bX J J (ac J)) .nil (Gq B ⟨ai,Dn c s.i⟩ _ h7 _ Y.ps (by refine(?_ :ai=decide (j.hd.dB≠0));exact I (op.lp) J) p7 (by refine(?_ :10*(40-j.d)+0<=g);exact I dd (iO lv (ac J))) (λz=>no λr a=>?_) λT h8 v8 z8 o8 w8=>?_))
   ·exact aM ((w7 r a).dY) λr1 a1 e1=>e1.rD (z r1 a1) (aa J)
   have w9:∀r,An c .body B f s.i r->Aw c [tK 262] B ⟨ai,Dn c s.i⟩ T.i r:=λr a=>by
    refine aM ((w7 r a).dY) λr1 a1 e1=>?_;rw[w8 r1 a1] at e1;exact e1
   have q8:=Y.to z8;refine cZ (q8.ps.line J) (((⟨⟨q8.ps,z8.2,q8.pv⟩,o8⟩):Bu c B (c.next j) h7 e 0 0 0 T h8).m9 (o:=265) J w9 J ST J J (aa J) (λz=>no z) λh9 u9 KK=>?_);have q9:Pz c (s.sub h G) h1 e (c.next T) h9:=⟨u9.q.ps,Y.nx.trans u9.q.nx,u9.q.pv⟩;have A:∀(v4:V) (Z:H),Pz c (s.sub h G) h1 e (c.next T) Z->cD (Cn X (g+20)) (Q2.drop 11) [some (.ref c.P),some (.bool E),some (.int G),some (.ref m1),some v4,S,some v8,some (.int (c.ln T)),none] (rt Q) Z:=λv4 Z Fr=>by
    refine cZ (.cls (.cons .co (.cons (.lo J) (.cons (.eS (.cons (.lo J) (.cons (Fr.ps.sc J J λna=>rfl) (.cons (.lo J) (.cons (.lo J) (.cons (.lo J) .nil)))))) .nil))) (ci (n:=g+18))) ?_;have aj:=(Fr.push (.list [.ref m1,.bool (c.next T).hd.va,v8,.int (c.ln T),v4])).push (.inst 5 [(12,.str [102,117,110,99,116,105,111,110]),(19,.int G),(46,.ref (Y7 Z))]);refine Rq aj.ps J (t:=s.hd) (o:=s.cS) ((o8.cS).trans op.cS) λXL Id=>cJ (.lo J) (IO _ XL _ ((z1.trans aj.sp).trans Id) ?_ λr a=>(KK r a).dq);have on:fZ c B (s.sub h G) (c.next T).nv (-2) (-1-if E then 1 else 0) (-1-if E then 1 else 0):=by
     have x:=u9.o
     exact(K.trans ((⟨x.d,x.lp,rfl,x.cS,⟨x.sy.iR,x.sy.rest⟩,x.le,x.ca,x.cb,x.ce⟩):fZ c B (c.next j).nv (c.next T).nv (0+wD 262) (0+wM 262) (0+wM 262))).nh (aa J) (by refine(?_ :_<=_+(0+(0:aF)));exact j5 0x35a28ac8ac8a80b2b26a02cac9 J) (by refine(?_ :_<=_+(0+(0:aF)));exact j5 0x35a28ac8ac8a80b2b26a02cac9 J)
    exact on.Xq
   refine m8 (t:=(c.next T).hd.va) (.of J (q9.ps.sc J J λna=>rfl) J) (λU=>?_) λU=>A _ _ q9;revert A;refine zj S (hj (o8.va.symm.trans U)) λt a5 b5 mj=>λA=>?_;refine cY q9.ps.hd λna Zb g9 x_=>?_;have it:∀{L:bS} {i:D} {v:V},L[5]? =some (some (.ref t))->[a5,b5][i]? =some v->Ev (Cn X (g+20)) (.sub (.l 5) (.c (.int i))) L h9 v h9:=λl5 g=> .sub (.lo l5) .co (.bq (q9.get mj) (fJ (zC g) (by refine(?_ :2<=dW);exact ac J)) g);exact cZ (.bq (.cons (it (i:=0) J J) (.cons (it (i:=1) J J) (.cons (.at (q9.ps.at J J J) (.i g9 J J)) .nil)))) (A _ _ (q9.push _))
  refine m8 (t:=u.hd.va) (.of J (q5.ps.sc J J λna=>rfl) J) (λU=>?_) λU=>N u _ _ none q5 (S.nh (cy _) (by refine I U ?_;rewrite[bG aC];exact j5 0xd68b2b26c02a02cac9 J) (by refine I U ?_;rewrite[bG aC];exact j5 0xd68b2b26c02a02cac9 J)) J J λz=>by rw[U] at z;exact ft z
  have q6:=q5.new (.list [.bytes [97,114,103]]);have GT:=S.cb;have Y9:c.sM s.i-(0:D)+(-(if E then 1 else 0)+if u.hd.va then 0 else-1)<=c.sM u.i-u.hd.n:=S.ce;have m4:=W.m u.i;rw[U,cw J] at GT Y9;refine cN (q5.ps.me (n:=g+20) J J J (.cons (.eS (.cons .co .nil)) .nil) (pZ (n:=g+19) (names:=[.bytes [97,114,103]]) q6.ps (q6.pv _ (.head _)).1 (q6.pv _ (.head _)).2 (λv m=>⟨_,ao.mp m⟩) (by refine(?_ :u.hd.n+1<=200);lia) (by refine(?_ :u.made+1<=59);exact za 0x358cba0906eae02c4baaac1128a2b22c0aaac00ee0e80a8ac9ac0 J mk GT m4) λh6 fl xs z6 lf gf nf lx td=>?_) (ac J));refine wW (td (xs[0]'(I lx (ac J))) (dh _)) λt a5 b5 et gt=>aW (.ref t) (.list gf (fJ (k:=0) (I lx (ac J)) (I lx (ac J))) (I (aQ et) (aI _))) ?_;have Y:=((q6.to z6).zE (J':=[]) nofun).add gt (z6.1.no gt (λx_ x_ x_=>nofun) nofun);refine cY Y.ps.hd λZd Zc g7 x_=>cL .co (Y.ps.at J J J) (Pa.BU (t:=(u.ql 1).hd) g7 J) (N (u.ql 1) _ [(t,.bq [a5,b5])] (some (.ref t)) (Y.to (Y.ps.Eg u.hd.dB u.hd.va am)) ((S.trans (fZ.ql (s:=u.nv) (k:=1) S.sy)).nh (aa J) (I U (dG J (j5 0x35a2cac9a2b22c02a02cac9 J))) (I U (dG J (j5 0x35a2cac9a2b22c02a02cac9 J)))) J J λx_=>(oK t a5 b5 J (.head _)))
 refine cN ((Et.of (C:=Cn X (g+20)) (t:=E) J (.lo J) J) _ ?_);induction E with
 |false=>
  exact cM aC (pP (dP (R _ _ _ _ ((u2.new (.list [])).z (aa J) (aa J) (aa J)) J J u2.q.nx.sz (bU _))))
 |true=>
  refine dG J ?_;have F:=u2.new (.list [.bytes [115,101,108,102]]);have s1:c.sM s.i<=c.sM (s.i+1):=md (dR s.i);refine F.ql (g':=g) (names:=[.bytes [115,101,108,102]]) W (F.q.pv _ (.head _)).1 (F.q.pv _ (.head _)).2 (λv m=>⟨_,ao.mp m⟩) J (.cons (.eS (.cons .co .nil)) .nil) u2.q.ps (by refine(?_ :(s.made:aF)+1<=c.sM (s.i+1)+1);lia) (by refine(?_ :((0:D):aF)+1<=c.sM (s.i+1)+1);lia) λh4 fl xs u4 lf gf nf lx td=>?_;have u5:=u4.zE (J':=[]) nofun;exact R _ h4 fl xs ⟨u5.q.add gf λz=>nf (Bg z),u5.o.nh (aa J) (aa J) (aa J)⟩ J J (az F.q.nx.sz lf) (I lx (ac J))
end
noncomputable abbrev kY:ag D:=[114,101,116,117,114,110]
noncomputable abbrev lM:ag D:=[98,114,101,97,107]
abbrev WK:(D->aD)->St->St->H->V->Prop:=λb b b h v=>∃a,eD h v a/\(a==kY||a==lM)=ai
abbrev vd(ln:aF):Prop:=∃n:D,ln=n/\n<=5000
def Gw(c:Pc)(X:Prop)(g:D)(a:ag aF)(A:(D->aD)->Fg->D->av D->Prop)(S:aF->aD)(e:D)(m:aF)(j:D)(b:ag V)(W:(D->aD)->St->St->H->V->Prop):Prop:=
 ∀(B:D->aD) (f:Fg) (s:St) (h:H) (Q:P1),(a=[]\/c.K s.i∈a)->f.lp=decide (s.hd.dB≠0)->Pa c s h->i9 c B f m s->10*(40-s.d)+e<=g->((∀y,A B f s.i y->Fq c S y)->X)->(∀E C v,Sp c s h E C->fZ c B s E 0 0 0->(∀y,A B f s.i y->y=ae E.i)->W B s E C v->Q v C)->P.call am X (g+20) (.fn j) (.ref c.P::b) Q h
section
variable{c:Pc}{X:Prop}{g n:D}{B:D->aD}{f:Fg}{i j:D}{y:av D}{s E:St}{h C:H}{ps:ag Pp}{a b e:aF}{L:bS}{Q:P1}{ln:aF}{r:ag (D×O)}{F:St}{N:H}{M:ag S}{R:PS}
theorem Kv(o:Gs c X g):Gw c X (g+1) [] (An c .block) nV 1 0 80 [] W0:=λB f s h Q t l q p k j b=>by
 refine(?_ :P.call am X ((g+20)+1) _ _ _ _);exact bQ _ rfl J (cZ (q.yZ J) (cN (q.eW (n:=g+20) J (bX J J (ac J)) .nil (o B f s h _ q l p.enter (iO k (ac J)) j λw x u a i e=>a.1.eW (n:=g+20) J (bX J J (ac J)) (.cons (.lo J) .nil) (vx (n:=g+19) a.1 λm v d=>cJ (.lo J) (b _ m _ (a.trans d) i.forget e trivial))))))
theorem fZ.GY{k:D}(x:fZ c B {s with hd:={s.hd with dB:=k}} E a b e):fZ c B s {E with hd:={E.hd with dB:=s.hd.dB}} a b e:=⟨x.d,rfl,x.va,x.cS,⟨x.sy.iR,x.sy.rest⟩,x.le,x.ca,x.cb,x.ce⟩
theorem i9.gq{m:aF}{b:aD}(p:i9 c B f m s)(l:s.hd.dB+1<=s.i):i9 c B ⟨b,f.va⟩ m {s with hd:={s.hd with dB:=s.hd.dB+1}}:=⟨⟨p.sy.iR,p.sy.rest⟩,p.va,p.d,p.b,p.n,p.o,l⟩
theorem Qh(q:Pa c s h)(e:L[0]? =ae (ae (.ref c.P)))(l:s.hd.dB<=5000)(k:∀C,Sp c s h {s with hd:={s.hd with dB:=s.hd.dB+1}} C->cD (Cn X n) M L R C):cD (Cn X n) (.v7 (.at (.l 0) 54) 49 .Add (.c (.int 1))::M) L R h:=cY q.hd λd f b g=>ub (q.at e J J) (.i b J J) .co (nT s.hd.dB 1 J J (jt (dU (bO 0x356227a0240ba081b240 J l)) J)) (Pa.BU (t:=s.hd) b J) (k _ (q.Eg (s.hd.dB+1) s.hd.va d))
theorem GS{m:D}(q:Pa c s h)(f:L[0]? =ae (ae (.ref c.P)))(e:s.hd.dB=m+1)(l:m<=5000)(k:∀C,Sp c s h {s with hd:={s.hd with dB:=m}} C->cD (Cn X n) M L R C):cD (Cn X n) (.v7 (.at (.l 0) 54) 49 .Sub (.c (.int 1))::M) L R h:=cY q.hd λd g b j=>ub (q.at f J J) (.i b J J) .co (nT s.hd.dB 1 J J (mJ (dU (dw 0xd5889e80902e8206c9070a09040 J e l)) J)) (Pa.BU (t:=s.hd) b J) (k _ (I (dw 0xdeb06aac9ac0c28241034 J e) (q.Eg m s.hd.va d)))
def Ng(c:Pc)(X:Prop)(g:D):Prop:=∀(B:D->aD) (f:Fg) (s:St) (h:H) (Q:P1),s.hd.dB+1<=s.i->Pa c s h->i9 c B f 0 s->10*(40-s.d)+2<=g->((∀y,An c .gq B f s.i y->Fq c nV y)->X)->(∀E C v,Sp c s h E C->fZ c B s E 0 0 0->(∀y,An c .gq B f s.i y->y=ae E.i)->Q v C)->P.call am X (g+20) (.fn 81) [.ref c.P] Q h
theorem Od(Gb:Gw c X g [] (An c .block) nV 1 0 80 [] W0):Ng c X (g+1):=λB f s h Q l q p w u d=>by
 refine(?_ :P.call true X ((g+20)+1) _ _ _ _)
 have j:=λy (a:An c .gq B f s.i y)=>(a.only J).iz
 have m:s.hd.dB<=5000:=by have:=q.pE;have:=q.ok.o0;exact gC 0x358206c902e8234c2b8206e068240 J l ‹s.i<=c.aw.length› this
 exact bQ _ rfl J (Qh q J m λA b=>cN (b.1.eW (n:=g+20) J (bX J J (ac J)) .nil (Gb B ⟨true,f.va⟩ _ A _ (.inl J) J b.1 (p.gq l) (iO w (ac J)) (λz=>u λy a=>z y (j y a)) λH K v e k t G=>GS e.1 J k.lp m λx o=>cJ (.lo J) (d _ x v ((b.trans e).trans o) k.GY λy a=>t y (j y a)))))
theorem Bu.R3(u:Bu c B F N r a b e s h){A:av D->Prop}{j:aF}(w:∀y,A y->Aw c (oR .gq::ps) B f s.i y)(p:i9 c B f j F)(G:Ng c X g)(l:s.hd.dB+1<=s.i)(K:0<=j+a)(O:0<=b)(L:0<=e)(H:10*(40-F.d)+2<=g)(d:(oS nV ps&&km ps)=am)(x:(∀y,A y->y=ax)->X)(k:∀E C v,Bu c B F N r a b e E C->(∀y,A y->Aw c ps B f E.i y)->Q v C):P.call am X (g+20) (.fn 81) [.ref c.P] Q h:=
 G B f s h Q l u.q.ps (p.go u.o K O L) (I u.o.d H) (λz=>x λy a=>aM ((w y a).dY) λt n m=>m.rD (z t n) d) λE C v z o R=>k E C v (u.mK z o) λy a=>by
  refine aM ((w y a).dY) λt n m=>?_;rw[R t n] at m;exact m
theorem Kr{ln:aF}(K:vd ln)(O:Gc c X g (An c .fU) SX 1 (-1) 68 [] W0)(L:Ng c X g):Gw c X (g+1) [277] (Aw c [tK 277,oR .fU,tK 259,oR .gq,tK 262]) SN 3 (-1) 84 [.int ln] WK:=λB f s h Q d H q p v G e=>by
 refine(?_ :P.call am X ((g+20)+1) _ _ _ _);have d:=ao.mp (d.resolve_left nofun);have b:(∀y,Aw c [tK 277,oR .fU,tK 259,oR .gq,tK 262] B f s.i y->y=ax)->X:=λz=>G λy a=> .of (z y a);exact bQ _ rfl J ((q.bu p).skip J d (aa J) λh1 t=>cN (t.q.ps.eW (n:=g+20) J (bX J J (ac J)) .nil (t.wQ (λy a=>Aw.gJ a d) p O (aa J) (aa J) (aa J) (iO v (ac J)) (aa J) b λu Z T j x R=>j.take J x J (aa J) b λY m w=>cN (m.q.ps.eW (n:=g+20) J (bX J J (ac J)) .nil (m.R3 w p L (by have:=p.l;have:=j.o.le;refine(?_ :u.hd.dB+1<=u.i+1);exact ri 0xd68242a090f0003b8206e040 J ‹s.hd.dB<=s.i› this j.o.lp) (aa J) (aa J) (aa J) (iO v (ac J)) (aa J) b λU W S A w4=>A.m9 (o:=277) J w4 J K J J (aa J) b λV k w5=>cJ (.cls (.cons .co (.cons (.lo J) (.cons (.eS (.cons (.lo J) (.cons (.lo J) .nil))) .nil))) (ci (n:=g+18))) (e _ _ _ ((k.push _).push _).q.sp (k.bL (aa J) (aa J) (aa J)) (λy a=>(w5 y a).dq) (aW _ (.i lk) (aa J))))))))
end
section
variable{c:Pc}{X:Prop}{g n:D}{B:D->aD}{f:Fg}{i j:D}{t:av D}{s y:St}{h C:H}{ps:ag Pp}{a b e:aF}{L:bS}{Q:P1}{ln:aF}{r:ag (D×O)}{A:St}{F:H}{R:PS}{A0:av D->Prop}{E:aF}
theorem i9.le{m a:aF}(p:i9 c B f m s)(l:a<=m):i9 c B f a s:={p with d:=f9 l p.d}
theorem Bu.block(u:Bu c B A F r a b e s h)(w:∀t,A0 t->Aw c (oR .block::ps) B f s.i t)(p:i9 c B f E A)(G:Gw c X g [] (An c .block) nV 1 0 80 [] W0)(K:f.lp=decide (A.hd.dB≠0))(H:0<=E+a)(M:0<=b)(L:0<=e)(n:10*(40-A.d)+1<=g)(x:(∀j,An c .block B f s.i j->Fq c nV j)->X)(k:∀y C v,Bu c B A F r a b e y C->(∀t,A0 t->Aw c ps B f y.i t)->s.i<=y.i->Q v C):P.call am X (g+20) (.fn 80) [.ref c.P] Q h:=
 G B f s h Q (.inl J) (I u.o.lp K) u.q.ps (p.go u.o H M L) (I u.o.d n) x λy C v z o N O=>k y C v (u.mK z o) (λt a=>by
  refine aM ((w t a).dY) λj m l=>?_;rw[N j m] at l;exact l) o.le
theorem HU(hl:vd ln)(Gq:Gs c X g)(Ge:Gc c X g (An c .fU) SX 1 (-1) 68 [] W0):Gw c X (g+1) [272] (Aw c [tK 272,oR .gq,tK 276,oR .fU]) SX 2 (-1) 85 [.int ln] WK:=λB f s h Q j af q p S K x=>by
 refine(?_ :P.call true X ((g+20)+1) _ _ _ _);have j:=ao.mp (j.resolve_left nofun);have d:=q.ok.o0;refine bQ _ rfl J (cZ (q.yZ J) ((q.bu p).skip J j (aa J) λh1 e=>?_));have T:=e.q.ps.pE;have L:=mQ p.l;refine Qh e.q.ps J (by refine(?_ :s.hd.dB<=5000);exact gC 0x358206c90aea09068242b80a0906e8234c0 J d T L) λU m=>?_;have R:=λb=>((p.go e.o (aa J) (aa J) (aa J)):i9 c B f 1 (c.next s)).gq (b:=b) L;refine cN (m.1.eW (n:=g+20) J (bX J J (ac J)) .nil (Gq B ⟨true,f.va⟩ _ U _ m.1 J ((R true).enter.le (aa J)) (iO S (ac J)) (λz=>K λt a=>?_) λO h3 v3 W Z Y=>?_))
 ·exact aM ((Aw.gJ a j).dY) λH M v=> .of (v.rD (z H (M.only J).iz) (aa J))
 ·have G:∀t,Aw c [tK 272,oR .gq,tK 276,oR .fU] B f s.i t->Aw c [tK 276,oR .fU] B f O.i t:=λt a=>by
   refine aM ((Aw.gJ a j).dY) λH M v=>?_;rw[Y H (M.only J).iz] at v;exact v
  refine((⟨m.1.pz.to W,Z⟩):Bu c B _ U [] 0 0 0 O h3).m9 (o:=272) J G J hl J J (aa J) (λz=>K λt a=> .of (z t a)) λh4 N w4=>cN (N.q.ps.eW (n:=g+20) J (bX J J (ac J)) .nil (N.call w4 (R f.lp) Ge (aa J) (aa J) (aa J) (iO S (ac J)) J K λs5 h5 v5 u w5 x_=>GS u.q.ps J u.o.lp (by refine(?_ :s.hd.dB<=5000);exact gC 0x358206c90aea09068242b80a0906e8234c0 J d T L) λh6 w=>w.1.eW (n:=g+20) J (bX J J (ac J)) (.cons (.lo J) .nil) (vx (n:=g+19) w.1 λh7 sn V=>cJ (.cls (.cons .co (.cons (.lo J) (.cons (.eS (.cons (.lo J) (.cons (.lo J) .nil))) .nil))) (ci (n:=g+18))) ?_)));have k:=(((e.q.to m).sp.trans u.q.sp).trans w).trans V;exact x _ _ _ ((k.trans k.1.push).trans (k.trans k.1.push).1.push) ((e.o.trans u.o.GY).forget.nh (aa J) (aa J) (aa J)) (λt a=>(w5 t a).dq) (aW _ (.i lk) (aa J))
end
noncomputable abbrev EP:ag Pp:=[tK 266,oR .fU,tK 274,oR .block,.r .EX .eM,.r .Hv .eG,tK 262]
section
variable{c:Pc}{X:Prop}{g n:D}{B:D->aD}{f:Fg}{i j:D}{A:av D}{s C:St}{h E:H}{ps:ag Pp}{a b e:aF}{L:bS}{Q:P1}{ln:aF}{t:ag (D×O)}{F:St}{T:H}{R:PS}{M:av D->Prop}{N:aF}
theorem Bu.SA{r:Rl}{S:aF->aD}{y K:D}{m:aF}{q:ag V}{W:(D->aD)->St->St->H->V->Prop}(u:Bu c B F T t a b e s h)(w:∀A,M A->Aw c (oR r::ps) B f s.i A)(p:i9 c B f N F)(G:Gc c X g (An c r) S y m K q W)(L:m<=N+a)(R:0<=b)(O:0<=e)(l:10*(40-F.d)+y<=g)(d:(oS S ps&&km ps)=am)(x:(∀A,M A->A=ax)->X)(k:∀C E v,Bu c B F T t a b e C E->(∀A,M A->Aw c ps B f C.i A)->s.i<=C.i->Q v E):P.call am X (g+20) (.fn K) (.ref c.P::q) Q h:=
 u.go p G L R O l (λz=>x λA a=>aM ((w A a).dY) λo n j=>j.rD (z o n) d) λC E v u z U Y=>k C E v u (λA a=>by
  refine aM ((w A a).dY) λo n j=>?_;rw[U o n] at j;exact j) z.2
noncomputable def SL:aF->aD:=λk=>nV k||k==261
theorem Mx:∀k,nV k=am->SL k=am:=λk z=>by unfold SL;exact I z J
theorem Um(hl:vd ln)(Ge:Gc c X g (An c .fU) SX 1 (-1) 68 [] W0)(Gb:Gw c X g [] (An c .block) nV 1 0 80 [] W0):Gw c X (g+1) [266] (Aw c EP) SN 2 (-1) 83 [.int ln] WK:=λB f s h Q hk GE q p lv no ST=>by
 refine(?_ :P.call am X ((g+20)+1) _ _ _ _)
 have hk:=ao.mp (hk.resolve_left nofun)
 have Z:(∀A,Aw c EP B f s.i A->A=ax)->X:=λz=>no λA a=> .of (z A a)
 have u0:=((q.bu p).new (.list [])).push (.bq [.ref h.length,.none])
 refine bQ _ rfl J (pY (.bq (.cons (.eS .nil) (.cons .co .nil))) lk J ?_)
 have LE:∀(s1:St) (h1:H) (e:ag V) (v:av V) (k W:aF) (A1:av D->Prop) (ps:ag Pp) (R:PS),W+wD k=2->wM k=0/\k≠287->c.K s1.i=k->Bu c B s h [(h.length,.list e)] W 0 0 s1 h1->Y7 e<=s1.i->(∀r,A1 r->Aw c ([oR .fU,tK 274,oR .block]++ps) B f (s1.i+1) r)->((∀r,A1 r->r=ax)->X)->((∀r,A1 r->∃x,Fq c nV x/\Af c ps B f x r)->X)->
   (∀s5 h5 Y v,Bu c B s h [(h.length,.list Y)] 2 0 0 s5 h5->Y7 Y<=s5.i->1<=Y7 Y->s1.i+1<=s5.i->(∀r,A1 r->Aw c ps B f s5.i r)->R .next [some (.ref c.P),some (.int ln),some (.ref h.length),some .none,v] h5)->
   cD (Cn X (g+20)) [.ex (.me (.at (.l 0) 53) 59 []),.as (.n 4) (.me (.l 0) 66 []),.ex (.me (.l 0) 81 [.c (.int 274)]),.ex (.me (.l 2) 1000 [.bq [.l 4,.me (.l 0) 88 []]])] [some (.ref c.P),some (.int ln),some (.ref h.length),some .none,v] R h1:=λs1 h1 e v k W A1 ps R ha hm ek u1 lx w1 xn xb kk=>by
  refine u1.skip J ek hm.2 λh2 u2=>?_
  rw[ha,hm.1] at u2
  refine cN (u2.q.ps.eW (n:=g+20) J (bX J J (ac J)) .nil (u2.SA w1 p Ge (aa J) (aa J) (aa J) (iO lv (ac J)) J xn λs3 h3 v3 u3 w3 af=>?_))
  have af:=af
  refine u3.take J w3 J (aa J) xn λh4 u4 w4=>mD (wN (.lo J) (u4.q.get (.head _)) (M5 (jb (.lo J) (dM (u4.q.ps.eW (n:=g+20) J (bX J J (ac J)) .nil (u4.block w4 p Gb GE (aa J) (aa J) (aa J) (iO lv (ac J)) (λz=>xb λr a=>?_) λs5 h5 v5 u5 w5 U=>dP (bQ e ?_ ?_ ?_)))))))
  ·exact aM ((w4 r a).dY) λx W G=>aW x (z x W) G
  ·exact bH (u5.q.get (.head _))
  ·exact gC 0xd5889e80906e002b8206e8234c0 J q.ok.o0 lx u1.q.ps.pE
  ·have U:=U
   exact kk s5 _ _ _ (((u5.push _).ii (aE _) _).z (aa J) (aa J) (aa J)) (by refine I au (?_ :_+1<=_);exact ri 0xd43a0902e0e8242b82a0906e040 J lx af U) (I au (Nat.le_add_left _ _)) (gC 0x350a8240b82a0906e068240 J af U) w5
 let d:D->bS->H->Prop:=λn L E=>∃C e v,L=[some (.ref c.P),some (.int ln),some (.ref h.length),some .none,v]/\n=c.aw.length-C.i/\Y7 e<=C.i/\((C=s/\e=[]/\Bu c B s h [(h.length,.list e)] 0 0 0 C E)\/(1<=Y7 e/\Bu c B s h [(h.length,.list e)] 2 0 0 C E/\∀A,Aw c EP B f s.i A->Ag c .EX B f [.r .Hv .eG,tK 262] C.i A))
 have Id:∀(C:St) (E:H) (e:ag V) (v3:V) (v:av V),Bu c B s h [(h.length,.list e)] 2 0 0 C E->(∀A,Aw c EP B f s.i A->Aw c [tK 262] B f C.i A)->cD (Cn X (g+20)) (TL.drop 3) [some (.ref c.P),some (.int ln),some (.ref h.length),some v3,v] (rt Q) E:=λC E e v3 v u w=>
  u.m9 (o:=266) J w J hl J J (aa J) Z λh5 u5 w5=>cJ (.cls (.cons .co (.cons (.lo J) (.cons (.eS (.cons (.lo J) (.cons (.lo J) .nil))) .nil))) (ci (n:=g+18))) (ST _ _ _ ((u5.push _).push _).q.sp (u5.bL (aa J) (aa J) (aa J)) (λA a=>(w5 A a).dq) (aW _ (.i lk) (aa J)))
 have IO:∀(C:St) (E:H) (e:ag V) (v:av V),Bu c B s h [(h.length,.list e)] 2 0 0 C E->(∀A,Aw c EP B f s.i A->Aw c [.r .Hv .eG,tK 262] B f C.i A)->cD (Cn X (g+20)) (TL.drop 2) [some (.ref c.P),some (.int ln),some (.ref h.length),some .none,v] (rt Q) E:=λC E e v u w=>by
  refine ua (u.pI J (aa J) (λn1=>?_) λk1 h2 u2=>?_)
  ·refine cM aC (Id C E e _ v u λA a=>aM ((w A a).eG) λx W G=>?_)
   revert G;exact I (W.none J λm=>n1 (ao.mp m)) λG=>G
  ·refine dG J ?_
   have w2:∀A,Aw c EP B f s.i A->∃x,Aw c [oR .block] B f (C.i+1) x/\Aw c [tK 262] B f (x.getD C.i) A:=λA a=>aM ((w A a).eG) λx W G=>aW x ((W.only J).gJ k1) G
   refine cN (u2.q.ps.eW (n:=g+20) J (bX J J (ac J)) .nil (u2.block (A0:=Aw c [oR .block] B f (C.i+1)) (λr a=>a) p Gb GE (aa J) (aa J) (aa J) (iO lv (ac J)) (λz=>Z λA a=>?_) λs3 h3 v3 u3 w3 x_=>?_))
   ·refine aM (w2 A a) λx W G=>?_
    have q1:=z x W.iz
    induction x with
    |none=>exact G.nk (by refine(?_ :c.K C.i≠262);exact I k1 (aa J))
    |some j=>exact G.nk λy=>by have:=q1 j J;rw[show(gx c).K j=262 from y] at this;exact ft this
   ·refine Id s3 h3 e v3 v (u3.z (aa J) (aa J) (aa J)) λA a=>aM (w2 A a) λx W G=>?_
    revert G;exact I ((w3 x W).dq) λG=>G
 refine wC d _ (uR s ([]) ax J J (bU _) (.inl (bX J J u0))) λn L E Fr=>DU Fr λC e v G en lx st=>?_;clear Fr
 refine I G ?_
 have pa:Pa c C E:=by rcases st with⟨_,_,u⟩|⟨_,u,_⟩<;>exact u.q.ps
 have GT:E[h.length]? =some (.list e):=by rcases st with⟨_,_,u⟩|⟨_,u,_⟩<;>exact u.q.get (.head _)
 refine(show Et (Cn X (g+20)) _ _ E (([266,261]:ag aF).contains (c.K C.i)) _ from .cj (pa.kind (n:=g+19) J) (.bq (.cons .co (.cons .co .nil))) (.s7 (mz (is:=[266,261]) lk))) _ ?_
 have KK:∀{b:aD},(1<=Y7 e->Et (Cn X (g+20)) (.du [.cj .Eq (.me (.l 0) 57 []) (.c (.int 266)),.cj .Gt (.ca (.c (.bi 0)) [.l 2]) (.c (.int 0))]) [some (.ref c.P),some (.int ln),some (.ref h.length),some .none,v] (E++[O.bq (([266,261]:ag aF).map .int)]) (c.K C.i==266) (E++[O.bq (([266,261]:ag aF).map .int)])):=λ{b} l=>by
  have pk:=(pa.push (o:=O.bq (([266,261]:ag aF).map .int))).1
  by_cases k:c.K C.i=266
  ·exact I (a6.mpr k) (.du (bj (pk.kind (n:=g+19) J) .co (iA k)) (.du (bj (.bi (.cons (.lo J) .nil) (nD.list (show Look _ _ (.ref h.length) (.list e) from bH GT) (by exact gC 0xd5889e80902e8234c2b8206e040 J lx pa.pE pa.ok.o0))) .co (aL some (aR (bO 0xdab02b22e009 J l)))) .uj))
  ·exact I (aK.mpr k) (.hZ (bj (pk.kind (n:=g+19) J) .co (ib k)))
 cases hc:([266,261]:ag aF).contains (c.K C.i) with
 |false=>
  refine cM aC ?_
  have nk:c.K C.i∉([266,261]:ag aF):=λm=>by rw[cg.mpr m] at hc;cases hc
  rcases st with⟨rfl,_,_⟩|⟨_,u,w⟩
  ·exact cq (I hk (aa J)) nk
  ·exact IO C _ e v (u.push _) λA a=>(w A a).hF J λm=>nk (I (ao.mp m) (aa J))
 |true=>
  refine dG J ?_
  rcases st with⟨rfl,rfl,u⟩|⟨l1,u,w⟩
  ·have pk:=(u.push (O.bq (([266,261]:ag aF).map .int)))
   refine bm (.du (bj (pk.q.ps.kind (n:=g+19) J) .co (iA hk)) (.hZ (bj (.bi (.cons (.lo J) .nil) (nD.list (show Look _ _ (.ref h.length) (.list []) from bH GT) (bU _))) .co J))) (LE C _ [] v 266 0 (Aw c EP B f C.i) [.r .EX .eM,.r .Hv .eG,tK 262] _ rfl ⟨rfl,aa J⟩ hk pk (bU _) (λr a=>a.gJ hk) Z (λz=>Z λA a=>?_) λs5 h5 Y v u5 aj l5 U w5=>⟨_,oU en U (Pc.lt (I hk (aa J))),s5,Y,v,rfl,rfl,aj,.inr (bX l5 u5 (λA a=>(w5 A a).eM))⟩)
   exact aM (z A a) λx q1 G=>G.rD q1 (aa J)
  ·by_cases k2:c.K C.i=266
   ·have:=KK (b:=am) l1
    rw[a6.mpr k2] at this
    exact bT this (IO C _ e v (u.push _) λA a=>(w A a).hF J (I k2 (aa J)))
   ·have k3:c.K C.i=261:=by
     rcases aZ.mp (cg.mp hc) with m|m
     ·exact cq m k2
     ·exact ao.mp m
    have:=KK (b:=am) l1
    rw[aK.mpr k2] at this
    refine bm this (LE C _ e v 261 2 (An c .EX B f C.i) [] _ rfl ⟨rfl,aa J⟩ k3 (u.push _) lx (λr a=>(a.only J).gJ k3) (λz=>Z λA a=>?_) (λz=>Z λA a=>?_) λs5 h5 Y v u5 aj l5 U w5=>⟨_,oU en U (Pc.lt (I k3 (aa J))),s5,Y,v,rfl,rfl,aj,.inr (bX l5 u5 (λA a=>(w A a).step λr a=>(w5 r a).dq))⟩)
    ·exact(w A a).rD (S1:=nV) (S:=SL) (λx W=> .of (z x W)) (aa J) Mx (I k3 J) (aa J)
    ·refine(w A a).rD (S1:=nV) (S:=SL) (λx W=>?_) (aa J) Mx (I k3 J) (aa J)
     exact aM (z x W) λr2 q2 e2=>e2.oS q2 J
end
section
variable{c:Pc}{X:Prop}{g n:D}{B:D->aD}{f:Fg}{i j:D}{F:av D}{s G:St}{h M:H}{ps:ag Pp}{a b e:aF}{L:bS}{Q:P1}{ln:aF}{E:ag (D×O)}{N:St}{T:H}{R:PS}{A0:av D->Prop}{Y:aF}{U:ag S}
theorem C5(W:oA c){li m:D}{y:ag V}{Z:av D->av D->Prop}(u:Bu c B N T [(m,.list y)] a b e s h)(lh:(Y7 T)<=m)(hb:0<=b)(p0:N.made<=c.sM N.i)(lx:(Y7 y)<=100)(bx:∀v∈y,∃b,v=V.bytes b)(Q:L[0]? =ae (ae (.ref c.P)))(l1:L[li]? =ae (ae (.ref m)))(w:∀F,A0 F->∃p,Ag c .name B f [] s.i p/\Z p F)(x:(∀F,A0 F->∃j,c.K j=44/\Z (ae j) F)->X)
  (k:∀G M d,Bu c B N T [(m,.list (y++d))] a (b+Y7 d) (e+Y7 d) G M->s.i<=G.i->(∀v∈y++d,∃b,v=V.bytes b)->(∀F,A0 F->Z (ae G.i) F)->cD (Cn X (g+20)) U L R M):cD (Cn X (g+20)) (.wh (.me (.l 0) 62 [.c (.int 44)]) [.ex (.me (.l li) 1000 [.me (.l 0) 76 []])]::U) L R h:=by
 refine wC (λn L' M=>∃G d,L'=L/\Bu c B N T [(m,.list (y++d))] a (b+Y7 d) (e+Y7 d) G M/\s.i<=G.i/\(∀v∈y++d,∃b,v=V.bytes b)/\(∀F,A0 F->∃p,Ag c .name B f [] G.i p/\Z p F)/\n=c.aw.length-G.i) _ (wU s ([]) J (I (bz ..) (u.z (cy _) (by refine(?_ :b+(0:D)<=b);exact j5 0xd40a2b200 J) (by refine(?_ :e+(0:D)<=e);exact j5 0xd40a2b200 J))) (aE _) (I (bz ..) bx) ⟨w,rfl⟩) λn L' M S=>wY S λG d e1 u ls bs af=>?_;refine cv af λw en=>?_;revert Q l1 k;refine sb e1 λQ l1 k=>u.pI Q (aa J) (λn1=>?_) λk1 h2 C=>?_
 ·refine cM aC (k G M d u ls bs λF a=>aM (w F a) λp O z=>?_);revert z;exact I ((O.hF J λm=>n1 (ao.mp m)).dq) λz=>z
 ·refine dG J (mD (wN (.lo l1) (C.q.get (.head _)) (C.q.ps.eW (n:=g+20) Q (bX J J (ac J)) .nil (rV (n:=g+9) C.q.ps (λn2=>x λF a=>?_) λk2 h3 t=>?_))))
  ·refine aM (w F a) λp O z=>aM O.gp λr1 a2 e2=>?_;revert e2;refine I (((a2.only J).gJ k1).nk n2) λe2=>?_;revert z;exact I (Aw.dq e2) λz=>aW _ k1 z
  ·have u3:=C.nx t k2;refine aM (mW C.q.ps.ok k2) λH aj x_=>I aj (bQ _ (u3.q.get (.head _)) (by refine I au ?_;exact Xw 0xd5889e809a0206eae02c6baaac31a8a2b084aab005b9c381b85ac0b84ac8 J hb p0 lx u.o.cb (W.m G.i)) ⟨c.aw.length-(G.i+2),VH en u3.q.ps.pE,c.next (c.next G),d++[.bytes H],rfl,?_,az ls (cH _ 2),?_,λF a=>?_,rfl⟩)
   ·exact I (aQ (a7 ..)) ((u3.ii lh (.bytes H)).z (a':=a) (b':=b+(d++[V.bytes H]).length) (e':=e+(d++[V.bytes H]).length) (by refine(?_ :a<=a+(1:aF)+0);exact j5 0x35a2b228ac9000 J) (by refine I au (?_ :b+((Y7 d+1:D):aF)<=b+Y7 d+1+0);exact mN 0x35a2b228ac9a2b001a2ba09001 J) (by refine I au (?_ :e+((Y7 d+1:D):aF)<=e+Y7 d+1+0);exact mN 0x35a2b228ac9a2b001a2ba09001 J))
   ·intro v A;rw[<-a7] at A;rcases dH.mp A with A|A
    ·exact bs v A
    ·exact⟨H,ao.mp A⟩
   ·exact aM (w F a) λp O z=>aW p (O.step λr a2=>(((a2.only J).gJ k1).gJ k2).dq) z
theorem i9.TE{m g:aF}(p:i9 c B f m s)(x:fZ c B s G a b e)(h:g<=m+a)(k:s.made-b<=c.sM s.i)(j:s.hd.n-e<=c.sM s.i):i9 c B f g G:=
 have:=p.d;have:=x.ca;have:=x.cb;have:=x.ce
 ⟨x.sy,I x.va p.va,Ww 0xd6aac1182baaac11a812aac016eaab0050eea040c2 J h ‹m<=c.sD s.i-↑s.d› ‹c.sD s.i-↑s.d+a<=c.sD G.i-↑G.d›,za 0x3512b06eaab044a02aab003b83a82ac0 J k ‹c.sM s.i-↑s.made+b<=c.sM G.i-↑G.made›,za 0x3512b06eaab044a02aab003b83a82ac0 J j this,I x.cS (I x.d p.o),I x.lp (az p.l x.le)⟩
theorem fZ.Jt(y:Sy c B s):fZ c B s {s with hd:={s.hd with n:=s.hd.n+3}} 0 0 (-3):=⟨rfl,rfl,rfl,rfl,⟨y.iR,y.rest⟩,aE _,by refine(?_ :_<=c.sD s.i-s.d);exact mN 0xd6aac0068ac8aab001 J,by refine(?_ :_<=c.sM s.i-s.made);exact mN 0xd6aac0068ac8aab001 J,by refine(?_ :_<=c.sM s.i-((s.hd.n+3:D):aF));exact mN 0x35aaba0b001a2cacbaab001 J⟩
theorem Bu.Jt(u:Bu c B N T E a b e s h)(d:L[0]? =ae (ae (.ref c.P)))(l:s.hd.n+3<=200)(k:∀M,Bu c B N T E (a+0) (b+0) (e+ -3) {s with hd:={s.hd with n:=s.hd.n+3}} M->cD (Cn X (g+20)) U L R M):cD (Cn X (g+20)) (.ex (.me (.l 0) 102 [.c (.int 3)])::U) L R h:=
 u.q.ps.eW (n:=g+20) d (bX J J (ac J)) (.cons .co .nil) (OX (n:=g+18) u.q.ps l λM z=>k M (u.to z (.Jt u.o.sy)))
noncomputable abbrev zB:ag Pp:=[tK 61,oR .fU,tK 44,oR .fU,.r .more .eG,tK 259,oR .gq,tK 262]
def Cp(c:Pc)(X:Prop)(g j:D)(A:(D->aD)->Fg->D->av D->Prop)(e:aF->aD):Prop:=∀(B:D->aD) (f:Fg) (s:St) (h:H) (Q:P1) (b:ag D) (ln:aF),vd ln->e (c.K s.i)=am->Pa c s h->i9 c B f (-1) s->s.made+4<=c.sM s.i->s.hd.n+4<=c.sM s.i->s.hd.dB+1<=s.i->10*(40-s.d)+3<=g->((∀F,A B f s.i F->F=ax)->X)->(∀G M v,Sp c s h G M->fZ c B s G 2 (-1) (-4)->(∀F,A B f s.i F->Aw c [tK 262] B f G.i F)->(∃a,eD M v a/\(a==kY||a==lM)=ai)->Q v M)->P.call am X (g+20) (.fn j) [.ref c.P,.bytes b,.int ln] Q h
theorem BG{j t:D}{d:ag V}{a b:V}{L:bS}{f i:D}{v:V}{C:Cy}(l:L[f]? =ae (ae (.ref j)))(o:h[j]? =ae (.list d))(e:d[0]? =ae (.ref t))(m:(Y7 d)<=dW)(n:h[t]? =ae (.bq [a,b]))(g:[a,b][i]? =ae v):Ev C (.sub (.sub (.l f) (.c (.int 0))) (.c (.int i))) L h v h:= .sub (.sub (.lo l) .co (.list (i:=0) o (fJ (k:=0) (zC e) m) e)) .co (.bq n (fJ (zC g) (by refine(?_ :2<=dW);exact ac J)) g)
theorem RC(W:oA c)(Ge:Gc c X g (An c .fU) SX 1 (-1) 68 [] W0)(Go:Ng c X g):Cp c X (g+1) 88 (Aw c zB) (λk=>k==61):=λB f s h Q nm ln hl hk q p mk nk ll lv S aj=>by
 refine(?_ :P.call am X ((g+20)+1) _ _ _ _)
 have hk:=a6.mp hk
 have O:=iO (lv':=1) lv (ac J)
 refine bQ _ rfl J (mD (q.eW (n:=g+20) J (bX J J (ac J)) (.cons .co .nil) (xP (n:=g+19) (m:=4) q (mN 0xd60528300bab80b06e068accac0 J nk (W.m s.i)) ((q.bu p).skip J hk (aa J) λh1 u1=>cN (u1.q.ps.eW (n:=g+20) J (bX J J (ac J)) .nil (u1.wQ (λF a=>Aw.gJ a hk) p Ge (aa J) (aa J) (aa J) O (aa J) S λs2 h2 v2 u2 w2 R=>u2.take J w2 J (aa J) S λh3 u3 w3=>cN (u3.q.ps.eW (n:=g+20) J (bX J J (ac J)) .nil (u3.wQ w3 p Ge (aa J) (aa J) (aa J) O (aa J) S λs4 h4 v4 u4 w4 R=>?_))))))))
 have A:∀(l:St) (h5:H) (v5:V),Bu c B s h [] 0 0 0 l h5->(∀F,Aw c zB B f s.i F->Aw c [tK 259,oR .gq,tK 262] B f l.i F)->cD (Cn X (g+20)) (WJ.drop 6) [some (.ref c.P),some (.bytes nm),some (.int ln),some v2,some v4,some v5,none,none] (rt Q) h5:=λl h5 v5 x w5=>by
  have ce:=x.o.ce
  refine x.Jt J (MV 0xd605282c1bab80b0eeaab043a2b22aac00ae0a8accac0 J nk ce (W.m l.i)) λh6 u6=>u6.take J w5 J (aa J) S λh7 u7 w7=>?_
  have u8:=u7.new (.list [.bytes nm])
  have m7:c.sM l.i<=c.sM (l.i+1):=md (dR _)
  refine cN (u8.ql (g':=g) (names:=[.bytes nm]) W (u8.q.pv _ (.head _)).1 (u8.q.pv _ (.head _)).2 (λv m=>⟨_,ao.mp m⟩) J (.cons (.eS (.cons (.lo J) .nil)) .nil) u7.q.ps (by refine(?_ :(l.made:aF)+1<=c.sM (l.i+1)+1);exact za 0xd68ac9128ac9ac1b840eeaab043a2b22aac00ae0a8accac0 J mk x.o.cb m7) (by refine(?_ :((l.hd.n+3:D):aF)+1<=c.sM (l.i+1)+1);exact za 0xd68ac9128ac9ae82c1b840eeaab043a2b22aac00ae0a8accac0 J nk ce m7) λh9 fl xs u9 lf gf nf Z td=>?_)
  have Z:=Z
  refine wW (td (xs[0]'(bO 0x36008c09034 J Z)) (dh _)) λt a5 b5 et gt=>?_
  have e0:xs[0]? =some (.ref t):=by refine I (aQ et) ?_;exact aI _
  have r:Bu c B s h [(fl,.list xs),(t,.bq [a5,b5])] 2 (-1) (-4) _ h9:=⟨((u9.zE (J':=[]) nofun).q.add gt (u9.q.ps.no gt (λR R R=>nofun) nofun)).add gf (λz=>nf (Bg z)),u9.o.nh (aa J) (by refine(?_ :(-1:aF)<=0+0+wM 259+ -1);exact aa J) (by refine(?_ :(-4:aF)<=0+ -3+wM 259+ -1);exact aa J)⟩
  refine cN (r.q.ps.eW (n:=g+20) J (bX J J (ac J)) .nil (Go B f _ h9 _ ?_ r.q.ps (p.TE r.o (aa J) (mN 0x3506ab2b26b02e068accac0 J mk) (mN 0x3506ab2b32b02e068accac0 J nk)) (I r.o.d (iO lv (ac J))) (λz=>S λF a=>?_) λId IO GT af GE Fr=>?_))
  ·refine(?_ :l.hd.dB+1<=l.i+1)
   exact ri 0xd68242a090f0003b8206e068240 J ll x.o.le x.o.lp
  ·exact aM ((w7 F a).dY) λe u b=>b.rD (z e u) (aa J)
  ·have w:=r.mK af GE
   have L:=w.q.get (.head _)
   have C:=w.q.get (.tail _ (.head _))
   refine cJ (.cls (.cons .co (.cons (.lo J) (.cons (.eS (.cons (BG (i:=0) J L e0 (I Z (ac J)) C J) (.cons (BG (i:=1) J L e0 (I Z (ac J)) C J) (.cons (.lo J) (.cons (.lo J) (.cons (.lo J) (.cons (.lo J) .nil))))))) .nil))) (ci (n:=g+18))) (aj _ _ _ ((w.push _).push _).q.sp w.o (λF a=>?_) (aW _ (.i lk) (aa J)))
   refine aM ((w7 F a).dY) λe u b=>?_
   rw[Fr e u] at b
   exact b
 refine cN (u4.pI J (aa J) (λn1=>?_) λk1 h5 x=>?_)
 ·refine cM aC (A s4 h4 .none (u4.z (aa J) (aa J) (aa J)) λF a=>aM ((w4 F a).eG) λe u b=>?_)
  revert b;exact I (u.none J λm=>n1 (ao.mp m)) λb=>b
 ·refine dG J ?_
  have w5:∀F,Aw c zB B f s.i F->∃e,An c .fU B f (s4.i+1) e/\Aw c [tK 259,oR .gq,tK 262] B f (e.getD s4.i) F:=λF a=>aM ((w4 F a).eG) λe u b=>aW e (((u.only J).gJ k1).iz) b
  refine x.q.ps.eW (n:=g+20) J (bX J J (ac J)) .nil (x.go p Ge (aa J) (aa J) (aa J) O (λz=>S λF a=>?_) λs6 h6 v6 u6 R w6 R=>A s6 h6 v6 (u6.z (aa J) (aa J) (aa J)) λF a=>?_)
  ·refine aM (w5 F a) λe u b=>?_
   have q1:=z e u
   induction e with
   |none=>exact b.nk (by refine(?_ :c.K s4.i≠259);exact I k1 (aa J))
   |some j=>exact b.nk λy=>by have:=q1 j J;rw[show(gx c).K j=259 from y] at this;exact ft this
  ·refine aM (w5 F a) λe u b=>?_
   revert b;exact I (w6 e u) λb=>b
end
noncomputable abbrev Nv:ag Pp:=[tK 267,oR .iT,tK 259,oR .gq,tK 262]
def Fx(c:Pc)(B:D->aD)(f:Fg)(i:D)(u:av D):Prop:=∃a,Ag c .name B f [] i a/\Af c Nv B f a u
section
variable{c:Pc}{X:Prop}{g n:D}{B:D->aD}{f:Fg}{i j:D}{u:av D}{s C:St}{h G:H}{ps:ag Pp}{a b e:aF}{L:bS}{Q:P1}{ln:aF}{r:ag (D×O)}{A:St}{F:H}{R:PS}{x:av D->Prop}{E:aF}
theorem vz(w:An c .names B f i u)(h:c.K i=285):Ag c .name B f [] (i+1) u:=Aw.eM ((w.only J).gJ h)
theorem uD{X:Gx}{g:Gf}{w1 w2:ag Pp}(e:rf g X B f [w1,w2] i=some u):∃a,jB g X B f w1 i=some a/\(match a with|some j=>u=some j|none=>jB g X B f w2 i=some u):=by
 refine aM (dI.mp e) λa c b=>aW a c ?_;induction a with
 |some j=>exact sb (si b) J
 |none=>exact sf b
theorem Dd(w:An c .row B f i u)(h:c.K i=264):(c.K (i+1)≠285->u=ax)/\(c.K (i+1)=285->(c.K (i+2)=61->Aw c zB B f (i+2) u)/\(c.K (i+2)≠61->Fx c B f (i+2) u)):=by
 refine cs w λn e=>?_;refine cs (BW [264] e J (ao.mpr h)) λk e=>aM (uD (w1:=tK 264::tK 285::zB) (w2:=tK 264::oR .names::Nv) e) λl d b=>?_;have d:=vX d h;refine⟨λz=>?_,λz=>⟨λy=>?_,λy=>?_⟩⟩
 ·revert b;refine I (zJ d z) λb=>dN (vX b h) λg a2 a=>?_;revert a;exact I (yC a2 J λm=>z (ao.mp m)) λa=>a
 ·induction l with
  |some j=>exact I b (⟨k,vX d z⟩)
  |none=>
   refine dN (vX b h) λg a2 a=>?_;revert a;exact I (((vz ⟨k,a2⟩ z).hF J (I y (aa J))).dq) λa=>I (zJ a (by refine(?_ :c.K (i+1+1)≠267);exact I y (aa J))) (⟨k,vX d z⟩)
 ·revert b;exact I (zJ (vX d z) y) λb=>dN (vX b h) λg a2 a=>aW g (vz ⟨k,a2⟩ z) (Ci a)
theorem RH(W:oA c)(Gx:Gc c X g (An c .iT) Bo 2 (-1) 67 [] W0)(Go:Ng c X g):Cp c X (g+1) 89 (Fx c) (λk=>k==44||k==267):=λB f s h Q R ln hl hk q p mk w ll lv M U=>by
 refine(?_ :P.call am X ((g+20)+1) _ _ _ _)
 refine bQ _ rfl J (cZ (.eS (.cons (.lo J) .nil)) (C5 (A0:=Fx c B f s.i) (f:=f) (Z:=λrn u=>Af c Nv B f rn u) W ((q.bu p).new (.list [.bytes R])) (aE _) (cy _) p.b (by refine(?_ :1<=100);exact ac J) (λv m=>⟨R,ao.mp m⟩) J J (λu a=>a) (λz=>M λu a=>?_) λs1 h1 e L GT aj w1=>?_))
 ·exact aM (z u a) λj kj z=>Aw.nk z (I kj (aa J))
 have ce:=L.o.ce
 have m1:=W.m s1.i
 have y:([V.bytes R]++e).length=Y7 e+1:=by refine I au ?_;exact tG _ _
 refine mD (L.q.ps.eW (n:=g+20) J (bX J J (ac J)) (.cons (v:= .int ((Y7 e+1+3:D):aF)) (.dy (.bi (.cons (.lo J) .nil) (nD.list ((L.q.get (.head _))) (by refine I y ?_;exact Ax 0xd5889e809a0906eae02c4baaac2128a2b06b22aac00ee0e8accac0 J w ce m1))) .co (.int (I y (jt (dU (Ax 0xd5889e809a0906eae02c4baaac2128a2b06b22aac00ee0e8accac0 J w ce m1)) J)))) .nil) (xP (n:=g+19) L.q.ps (Ax 0x35814a282e82410aeae02c4baaac2128a2b06b22aac00ee0e8accac0 J w ce m1) (L.take J w1 J (aa J) M λh2 u2 w2=>cN (u2.q.ps.eW (n:=g+20) J (bX J J (ac J)) .nil (u2.wQ w2 p Gx (by refine(?_ : -1<=-1+(0+(0:aF)));exact aa J) (by refine(?_ :0<=0+((Y7 e):aF)+0);exact bO 0x35a2b228ac0ac8ac8 J) (by refine(?_ :0<=0+((Y7 e):aF)+0);exact bO 0x35a2b228ac0ac8ac8 J) (iO lv (ac J)) (aa J) M λt h3 v3 H w3 x_=>?_)))))
 have N:=H.o.ce
 refine H.Jt J (Ax 0xd605282c2bab80b12eaab084a28ac8a2b06b22aac00ee0e8accac0 J w N (W.m t.i)) λh6 u6=>u6.take J w3 J (aa J) M λh7 O w7=>?_
 have m7:c.sM t.i<=c.sM (t.i+1):=md (dR _)
 refine cN (O.ql (g':=g) (names:=[.bytes R]++e) W (O.q.get (.head _)) (O.q.pv _ (.head _)).2 aj J (.cons (.lo J) .nil) O.q.ps (by refine I y (?_ :(t.made:aF)+((Y7 e+1:D):aF)<=c.sM (t.i+1)+1);exact Wu 0xd68ac9168ae8241ac2b8512eaab084a28ac8a2b06b22aac00ee0e8accac0 J mk H.o.cb m7) (by refine I y (?_ :((t.hd.n+3:D):aF)+((Y7 e+1:D):aF)<=c.sM (t.i+1)+1);exact Wu 0xd68ac9168ae8241ae82c2b8512eaab084a28ac8a2b06b22aac00ee0e8accac0 J w N m7) λh9 fl xs u9 lf gf nf lx td=>?_)
 have l:=(u9.zE (J':=[]) nofun).z (a':=2) (b':= -1) (e':= -4) (aa J) (by refine I y (?_ : -1<=0+((Y7 e):aF)+0+0+0+ -((Y7 e+1:D):aF));exact bO 0xd68b2ba09028ac8a2b228ac8a2b02b22cac9 J) (by refine I y (?_ : -4<=0+((Y7 e):aF)+0+ -3+0+ -((Y7 e+1:D):aF));exact bO 0x35a2cae8240a2b228b2b2e8ac8a2b02b22cacc J)
 refine cN (l.q.ps.eW (n:=g+20) J (bX J J (ac J)) .nil (Go B f _ h9 _ ?_ l.q.ps (p.TE l.o (aa J) (mN 0x3506ab2b26b02e068accac0 J mk) (mN 0x3506ab2b32b02e068accac0 J w)) (I l.o.d (iO lv (ac J))) (λz=>M λu a=>?_) λGE Id Fr T af Y=>?_))
 ·refine(?_ :t.hd.dB+1<=t.i+1)
  exact ri 0xd68242a090f0003b8206e068240 J ll H.o.le H.o.lp
 ·exact aM ((w7 u a).dY) λr1 a1 S=>S.rD (z r1 a1) (aa J)
 ·have K:=l.mK T af
  refine cJ (.cls (.cons .co (.cons (.lo J) (.cons (.eS (.cons (.lo J) (.cons (.lo J) (.cons (.lo J) .nil)))) .nil))) (ci (n:=g+18))) (U _ _ _ ((K.push _).push _).q.sp K.o (λu a=>?_) (aW _ (.i lk) (aa J)))
  refine aM ((w7 u a).dY) λr1 a1 S=>?_
  rw[Y r1 a1] at S
  exact S
theorem RJ(W:oA c)(hl:vd ln)(G1:Cp c X g 88 (Aw c zB) (λk=>k==61))(G2:Cp c X g 89 (Fx c) (λk=>k==44||k==267)):Gw c X (g+1) [264] (An c .row) SN 4 (-1) 86 [.int ln] WK:=λB f s h Q Y GE q p lv no af=>by
 refine(?_ :P.call am X ((g+20)+1) _ _ _ _);have Y:=ao.mp (Y.resolve_left nofun);have d:(∀u,An c .row B f s.i u->u=ax)->X:=λz=>no λu a=> .of (z u a);refine bQ _ rfl J ((q.bu p).skip J Y (aa J) λh1 R=>cZ (R.q.ps.yZ J) (cN (R.q.ps.eW (n:=g+20) J (bX J J (ac J)) .nil (rV (n:=g+9) R.q.ps (λz=>d λu a=>(Dd a Y).1 z) λk1 h2 z2=>?_))));have j:=R.nx z2 k1;refine aM (mW R.q.ps.ok k1) λnm en x_=>I en ?_;have O:=λu (a:An c .row B f s.i u)=>(Dd a Y).2 k1;have cb:=j.o.cb;have pb:=p.b;have pn:=p.n;have p2:i9 c B f (-1) (c.next (c.next s)):=p.go j.o (aa J) (aa J) (aa J);have ll:=dw 0xd68281a0902e040 J p.l;have Z:∀(w:St) (y:H) (v:V),Sp c (c.next (c.next s)) h2 w y->fZ c B (c.next (c.next s)) w 2 (-1) (-4)->(∀u,An c .row B f s.i u->Aw c [tK 262] B f w.i u)->(∃U,eD y v U/\(U==kY||U==lM)=ai)->cD (Cn X (g+20)) (WL.drop 4) [some (.ref c.P),some (.int ln),some (.int s.hd.n),some (.bytes nm),some v] (rt Q) y:=λw y v M S N ⟨U,⟨vn,l,pp,ev,gv⟩,aj⟩=>by
  have u3:=j.to M S;refine((⟨u3.q.add gv (u3.q.ps.no gv (λa fs m e=>by cases e;rcases m with m|m|m<;>cases m) nofun),u3.o⟩):Bu c B s h [(vn,_)] _ _ _ w y).m9 (o:=264) J N J hl J rfl (aa J) d λh5 u5 w5=>?_;refine u5.q.ps.eW (n:=g+20) J (bX J J (ac J)) (.cons (.lo J) .nil) (vx (n:=g+19) u5.q.ps λh6 sn z6=>cJ (.lo J) ?_);have q6:=u5.q.to z6;exact af _ h6 v q6.sp (u5.o.forget.nh (aa J) (aa J) (cy _)) (λu a=>(w5 u a).dq) (aW U (oK vn l pp ev (q6.get (.head _))) aj)
 by_cases L:c.K (s.i+2)=61
 ·refine bT (bj (j.q.ps.kind (n:=g+19) J) .co (iA (L))) (cN (j.q.ps.eW (n:=g+20) J (bX J J (ac J)) (.cons (.lo J) (.cons (.lo J) .nil)) (G1 B f _ h2 _ nm ln hl (a6.mpr L) j.q.ps p2 (by refine(?_ :(s.made:aF)+4<=c.sM (s.i+2));exact Bi 0x350a8accac0b81ac0baaac00a8accaab001 J cb pb) (by refine(?_ :(s.hd.n:aF)+4<=c.sM (s.i+2));exact MV 0x350e8accac1b82ac1baaac00e8accaab002 J cb pn) ll (iO lv (ac J)) (λz=>d λu a=>z u ((O u a).1 L)) λw y v M S N nd=>Z w y v M S (λu a=>N u ((O u a).1 L)) nd)))
 ·refine bm (bj (j.q.ps.kind (n:=g+19) J) .co (ib (L))) ?_;have ut:=j.push (.bq (([44,267]:ag aF).map .int));refine m8 (t:=([44,267]:ag aF).contains (c.K (s.i+2))) (.cj (j.q.ps.kind (n:=g+19) J) (.bq (.cons .co (.cons .co .nil))) (.s7 (mz (is:=[44,267]) lk))) (λhc=>?_) λhc=>?_
  ·have Fr:(c.K (s.i+2)==44||c.K (s.i+2)==267)=am:=by
    rcases aZ.mp (cg.mp hc) with m|m
    ·exact I (a6.mpr m) J
    ·exact I (a6.mpr (ao.mp m)) (I (Bool.or_true ..) J)
   exact cN (ut.q.ps.eW (n:=g+20) J (bX J J (ac J)) (.cons (.lo J) (.cons (.lo J) .nil)) (G2 B f _ _ _ nm ln hl Fr ut.q.ps p2 (by refine(?_ :(s.made:aF)+4<=c.sM (s.i+2));exact Bi 0x350a8accac0b81ac0baaac00a8accaab001 J cb pb) (by refine(?_ :(s.hd.n:aF)+4<=c.sM (s.i+2));exact MV 0x350e8accac1b82ac1baaac00e8accaab002 J cb pn) ll (iO lv (ac J)) (λz=>d λu a=>z u ((O u a).2 L)) λw y v M S N nd=>Z w y v (Sp.trans ⟨ut.q.ps,(j.q.ps.pz.push _).nx⟩ M) S (λu a=>N u ((O u a).2 L)) nd))
  ·refine lW (n:=g+14) ut.q.ps J (d λu a=>?_) (ac J);have T:c.K (s.i+2)∉([44,267]:ag aF):=λm=>by rw[cg.mpr m] at hc;cases hc
   refine aM ((O u a).2 L) λrn a1 e1=>?_;revert e1;exact I ((a1.hF J λm=>T (I (ao.mp m) (aa J))).dq) λe1=>Aw.nk e1 λm=>T (I (m) (aa J))
end
noncomputable def xg:aF->aD:=λk=>[61,44,43,45,278,280,46,91,58,123,286].contains k
theorem FJ:∀k,Bo k=am->xg k=am:=uV (S:=[44,43,45,278,280,46,91,58,123,286]) (aa J)
noncomputable abbrev EG:ag Pp:=[tK 285,oR .body]
abbrev zD(c:Pc)(B:D->aD)(f:Fg)(i:D)(u:av D):Prop:=Aw c [oR .names,.r .init .eG] B f i u
section
variable{c:Pc}{X:Prop}{g n:D}{B:D->aD}{f:Fg}{i j:D}{u:av D}{s w:St}{h x:H}{ps:ag Pp}{a b e:aF}{L:bS}{Q:P1}{ln:aF}{l:ag (D×O)}{E:St}{G:H}{R:PS}{C:av D->Prop}{F:aF}
def Co(c:Pc)(X:Prop)(g b:D)(A:(D->aD)->Fg->D->av D->Prop)(S:aF->aD)(k:aF)(m:aF):Prop:=∀(B:D->aD) (f:Fg) (s:St) (h:H) (Q:P1) (ln:aF),vd ln->Pa c s h->i9 c B f m s->s.made+k<=c.sM s.i->s.hd.n+k<=c.sM s.i->10*(40-s.d)+3<=g->((∀u,A B f s.i u->Fq c S u)->X)->(∀w x v,Sp c s h w x->fZ c B s w (-1-m) (-k) (-k)->(∀u,A B f s.i u->u=ae w.i)->(∃a,eD x v a/\(a==kY||a==lM)=ai)->Q v x)->P.call am X (g+20) (.fn b) [.ref c.P,.int ln] Q h
theorem RE(W:oA c)(Gb:Gn c X g):Co c X (g+1) 91 (Aw c EG) SN 2 1:=λB f s h Q ln hl q p O T lv R K=>by
 refine(?_ :P.call am X ((g+20)+1) _ _ _ _)
 have U:=W.m s.i
 refine bQ _ rfl J (cN (q.Tq (n:=g+20) J (bX J J (ac J)) (dM (pP (dM (q.eW (n:=g+20) J (bX J J (ac J)) .nil (rV (n:=g+9) q (λz=>R λu a=> .of (a.nk z)) λH h1 z1=>dP (aM (mW q.ok H) λS en M=>I en ?_))))))))
 have e:=((q.bu p).nx z1 H).new (.list [.bytes S])
 refine dP (pZ (n:=g+19) (names:=[.bytes S]) e.q.ps (e.q.pv _ (.head _)).1 (e.q.pv _ (.head _)).2 (λv m=>⟨_,ao.mp m⟩) (by refine(?_ :s.hd.n+1<=200);exact mN 0xd60528240bab80b06e068acaac0 J T U) (by refine(?_ :s.made+1<=59);exact mN 0xd632e8240bab80b06e068acaac0 J O U) λV fl L z3 lf gf nf j td=>?_)
 have N:=(e.to z3 (.ql (k:=1) e.o.sy)).zE (J':=[]) nofun
 have j:=j
 refine wW (td (L[0]'(I j tS)) (dh _)) λt a5 b5 et Y=>?_
 have Z:L[0]? =ae (.ref t):=by refine I (aQ et) ?_;exact aI _
 have b:Bu c B s h [(fl,.list L),(t,.bq [a5,b5])] 0 (-1) (-1) _ V:=⟨(N.q.add Y (N.q.ps.no Y (λM M M=>nofun) nofun)).add gf (λz=>nf (Bg z)),N.o.nh (aa J) (by refine(?_ :(-1:aF)<=0+0+ -1);exact aa J) (by refine(?_ :(-1:aF)<=0+0+ -1);exact aa J)⟩
 refine cN (b.q.ps.eW (n:=g+20) J (bX J J (ac J)) (.cons .co (.cons (b.q.ps.line J) .nil)) (Gb ai B f _ V _ _ (Pc.qk q.ok) b.q.ps (p.TE b.o (aa J) (mN 0x3506ab2b26b02e068acaac0 J O) (mN 0x3506ab2b26b02e068acaac0 J T)) (by refine(?_ :((s.made+1:D):aF)+1+0<=c.sM (s.i+1));exact Bi 0xd42a2b228ac9ae8240b8206e068acaac0 J O (md (dR _))) (I b.o.d (iO lv (ac J))) (λz=>R λu a=> .of (z u (a.gJ H).iz)) λs5 h5 v5 z5 o5 w5=>?_))
 have A:=b.to z5 o5
 have y:=A.q.get (.head _)
 have r:=A.q.get (.tail _ (.head _))
 exact cJ (.cls (.cons .co (.cons (.lo J) (.cons (.eS (.cons (BG (i:=0) J y Z (I j (ac J)) r J) (.cons (BG (i:=1) J y Z (I j (ac J)) r J) (.cons (.lo J) .nil)))) .nil))) (ci (n:=g+18))) (K _ _ _ ((A.push _).push _).q.sp (A.o.nh (aa J) (aa J) (aa J)) (λu a=>w5 u (a.gJ H).iz) (aW _ (.i lk) (aa J)))
theorem RD(W:oA c)(Gx:Gc c X g (An c .iT) Bo 2 (-1) 67 [] W0):Co c X (g+1) 92 (zD c) xg 1 (-1):=λB f s h Q ln hl q p mk nk lv no U=>by
 refine(?_ :P.call am X ((g+20)+1) _ _ _ _)
 refine bQ _ rfl J (cN (pP (dM (q.eW (n:=g+20) J (bX J J (ac J)) .nil (rV (n:=g+9) q (λz=>no λu a=>?_) λk1 h1 z1=>dP ?_)))))
 ·refine aM (Aw.dY a) λe k d=>?_
  revert d;exact I (k.none J λm=>z (ao.mp m)) λd=> .of d
 refine aM (mW q.ok k1) λO en x_=>I en (C5 (A0:=zD c B f s.i) (f:=f) (Z:=λrn u=>Af c [.r .init .eG] B f rn u) W (((q.bu p).nx z1 k1).new (.list [.bytes O])) z1.2.sz (aa J) p.b (by refine(?_ :1<=100);exact ac J) (λv m=>⟨O,ao.mp m⟩) J J (λu a=>?_) (λz=>no λu a=>?_) λN h3 t L Fr aj w3=>?_)
 ·exact aM (Aw.dY a) λe k d=>aW e (vz k k1) d
 ·refine aM (z u a) λj kj z=>aM (Aw.eG z) λe k d=>?_
  revert d;refine I (k.none J (I kj (aa J))) λd=>I (d.dq) λj' y=>sb (si y) (?_ :xg (c.K j)=am)
  exact I kj J
 have S:=L.o.ce
 have m3:=W.m N.i
 have M:([V.bytes O]++t).length=Y7 t+1:=by refine I au ?_;exact tG _ _
 refine mD (L.q.ps.eW (n:=g+20) J (bX J J (ac J)) (.cons (v:= .int ((Y7 t+1:D):aF)) (M▸.bi (.cons (.lo J) .nil) (nD.list ((L.q.get (.head _))) (by refine I M ?_;exact Ax 0x356227a0268241bab80b12eaab084a28ac1a2b22b22aac00ee0e8ac9ac0 J nk S m3))) .nil) (xP (n:=g+19) L.q.ps (Ax 0xd60528a09042bab80b12eaab084a28ac1a2b22b22aac00ee0e8ac9ac0 J nk S m3) ?_))
 have R:∀(Y:St) (T:H) (v:V),Bu c B s h [(Y7 h1,.list ([.bytes O]++t))] 0 (0+0+((Y7 t):aF)) (0+0+((Y7 t):aF)) Y T->(∀u,zD c B f s.i u->u=some Y.i)->cD (Cn X (g+20)) (WH.drop 4) [some (.ref c.P),some (.int ln),some (.ref (Y7 h1)),some v] (rt Q) T:=λY T v A w4=>fQ (gT .co (.lo J) (dM (A.ql (g':=g) (names:=[.bytes O]++t) W (A.q.get (.head _)) (A.q.pv _ (.head _)).2 aj J (.cons (.lo J) .nil) A.q.ps (by exact I M (Ax 0x35a2b244a2ba0906b0aeaab084a28ac1a2b22b22aac00ee0e8ac9ac0 J mk A.o.cb)) (by exact I M (Ax 0x35a2b244a2ba0906b0aeaab084a28ac1a2b22b22aac00ee0e8ac9ac0 J nk A.o.ce)) λh9 fl xs u9 lf gf nf lx td=>jb (.lo J) (dP (ci (n:=g+18) _ (U _ _ _ ((u9.push _).push _).q.sp (u9.o.nh (aa J) (by exact I M (bO 0xd68b2ba09028ac0a2b22b22cac9 J)) (by exact I M (bO 0xd68b2ba09028ac0a2b22b22cac9 J))) w4 (aW _ (.i lk) (aa J))))))))
 refine cN (L.pI J (aa J) (λn1=>?_) λk4 T A=>?_)
 ·refine cM aC (pP (dP (R N _ _ ((L.push _).z (aa J) (cy _) (cy _)) λu a=>aM (Aw.eG (w3 u a)) λe k d=>?_)))
  revert d;exact I (k.none J λm=>n1 (ao.mp m)) λd=>d.dq
 ·refine dG J ?_
  have w4:∀u,zD c B f s.i u->∃e,An c .iT B f (N.i+1) e/\u=some (e.getD N.i):=λu a=>aM (Aw.eG (w3 u a)) λe k d=>aW e (((k.only J).gJ k4).iz) d.dq
  refine A.q.ps.eW (n:=g+20) J (bX J J (ac J)) .nil (A.go p Gx (aa J) (by refine(?_ :0<=0+(0:aF)+Y7 t+0);exact bO 0xd68ac8a2b028ac8ac8ac8 J) (by refine(?_ :0<=0+(0:aF)+Y7 t+0);exact bO 0xd68ac8a2b028ac8ac8ac8 J) (iO lv (ac J)) (λz=>no λu a=>?_) λs5 h5 v5 u5 x_ w5 x_=>R s5 h5 v5 (u5.z (aa J) (by refine(?_ :_<=0+(0:aF)+Y7 t+0);exact bO 0xd68ac8a2b028ac8ac8a2b028ac8ac8 J) (by refine(?_ :_<=0+(0:aF)+Y7 t+0);exact bO 0xd68ac8a2b028ac8ac8a2b028ac8ac8 J)) λu a=>?_)
  ·refine aM (w4 u a) λe k af=>?_;revert a;refine I af λa=>?_
   intro j y
   induction e with
   |none=>refine sb (si y) (?_ :xg (c.K N.i)=am);exact I k4 J
   |some j'=>exact sb (si y) (FJ _ (z _ k _ rfl))
  ·refine M7 u (w4 u a) λe k=>?_
   exact I (w5 e k) J
end
noncomputable abbrev zF:ag Pp:=[tK 265,tK 285,.r .QT .eM,.r .Ca .eG,oR .body]
section
variable{c:Pc}{X:Prop}{g n:D}{B:D->aD}{f:Fg}{i j:D}{x:av D}{s y:St}{h A:H}{ps:ag Pp}{a b e:aF}{L:bS}{Q:P1}{ln:aF}{w:ag (D×O)}{C:St}{F:H}{R:PS}{G:av D->Prop}{E:aF}
theorem RI(W:oA c)(hl:vd ln)(Gb:Gn c X g)(Gf:∀t,Gk c X g [46,58] (λB f i=>Aw c [tK 285] B f (i+1)) SN 1 (-2) 73 [t] (WF c)):Gw c X (g+1) [265] (Aw c zF) SN 2 (-1) 90 [.int ln] WK:=λB f s h Q hk hlp q p lv no yes=>by
 refine(?_ :P.call am X ((g+20)+1) _ _ _ _);have hk:=ao.mp (hk.resolve_left nofun);have no':(∀x,Aw c zF B f s.i x->x=ax)->X:=λz=>no λx a=> .of (z x a);refine bQ _ rfl J ((q.bu p).skip J hk (of_decide_eq_true J) λh1 u1=>cN (u1.q.ps.Tq (n:=g+20) J (bX J J (ac J)) (dM (u1.name (f:=f) J (λx a=>Aw.gJ a hk) no' λnm h2 hn u2 w2=>jb (u2.q.ps.eY J) (dP (MI (n:=g+17) u2.q.ps hn λv h3 z3 nd=>cZ .co ?_))))));have bL:∀(s4:St) (h4:H) (v:V) (ts:aD),Bu c B s h [] 2 (1+if ts then 1 else 0) 0 s4 h4->(∀x,Aw c zF B f s.i x->Aw c [oR .body] B f s4.i x)->cD (Cn X (g+20)) (WI.drop 4) [some (.ref c.P),some (.int ln),some v,some (.bool ts)] (rt Q) h4:=λs4 h4 v ts u4 w4=>by
  refine fQ (gT .co (.lo J) (jb (.eS (.cons (.lo J) .nil)) (dM (pP (dM ((u4.push _).q.ps.eW (n:=g+20) J (bX J J (ac J)) (.cons (.lo J) (.cons (.lo J) .nil)) (Gb ts B f s4 _ _ ln hl (u4.push _).q.ps (p.go u4.o (of_decide_eq_true J) (by split<;>exact of_decide_eq_true J) (of_decide_eq_true J)) (za 0x351280e8ac9ac1b82ac0baaac1128a03ac9aab002 J u4.o.cb p.b) (I u4.o.d (iO lv (ac J))) (λz=>no' λx a=>z x (w4 x a).iz) λs5 h5 v5 z5 o5 w5=>dP (dP (ci (n:=g+18) _ ?_)))))))));have u5:=(u4.push (.list [v])).to z5 o5;exact yes _ _ _ (((u5.push _).push _).push _).q.sp (u5.o.nh (of_decide_eq_true J) (by split<;>exact of_decide_eq_true J) (of_decide_eq_true J)) (λx a=>w5 x (w4 x a).iz) (aW _ (.i lk) (of_decide_eq_true J))
 refine oY (λn L A=>∃y v ts,L=[some (.ref c.P),some (.int ln),some v,some (.bool ts)]/\n=c.aw.length-y.i/\Bu c B s h [] 2 (1+if ts then 1 else 0) 0 y A/\(ts=ai->∀x,Aw c zF B f s.i x->Ag c .QT B f [.r .Ca .eG,oR .body] y.i x)/\(ts=am->∀x,Aw c zF B f s.i x->Aw c [oR .body] B f y.i x)) _ (tU _ v ai J J (((u2.mK z3 (.refl u2.o.sy)).z (a':=2) (b':=1) (e':=0) (of_decide_eq_true J) (of_decide_eq_true J) (of_decide_eq_true J)).z (of_decide_eq_true J) (of_decide_eq_true J) (of_decide_eq_true J)) (λx_ x a=>(w2 x a).eM) nofun) λn L A st=>Ml st λy v ts e1 en u wf wt=>?_;refine I e1 ?_;have ut:=u.push (.bq (([46,58]:ag aF).map .int));have tin:Et (Cn X (g+20)) (.cj .In (.me (.l 0) 57 []) (.bq [.c (.int 46),.c (.int 58)])) [some (.ref c.P),some (.int ln),some v,some (.bool ts)] A (([46,58]:ag aF).contains (c.K y.i)) _:= .cj (u.q.ps.kind (n:=g+19) J) (.bq (.cons .co (.cons .co .nil))) (.s7 (mz (is:=[46,58]) lk));cases hc:([46,58]:ag aF).contains (c.K y.i) with
 |false=>
  rw[hc] at tin;refine dO ai _ (.hZ tin) (cM aC ?_);have nm':c.K y.i∉([46,58]:ag aF):=λm=>by rw[cg.mpr m] at hc;cases hc
  refine bL y _ v ts ut λx a=>?_;induction ts with
  |true=>exact wt J x a
  |false=>
   refine aM (((wf J x a).hF J λm=>nm' (I (ao.mp m) (of_decide_eq_true J))).eG) λr1 a1 e1=>?_;revert e1;exact I (a1.none J λm=>nm' (I (ao.mp m) (of_decide_eq_true J))) λe1=>e1
 |true=>
  rw[hc] at tin;have mk:=cg.mp hc;have tb:Et (Cn X (g+20)) (.lu (.l 3)) [some (.ref c.P),some (.int ln),some v,some (.bool ts)] (A++[O.bq (([46,58]:ag aF).map .int)]) (!ts) (A++[O.bq (([46,58]:ag aF).map .int)]):= .not (.of J (.lo J) J);induction ts with
  |true=>
   exact dO ai _ (.du tin (.hZ tb)) (cM aC (bL y _ v am ut (wt J)))
  |false=>
   refine dO am _ (.du tin (.du tb .uj)) (dG J ?_);have wf:=wf J;refine cZ (v:= .bool (c.K y.i==58)) (.cj (ut.q.ps.kind (n:=g+19) J) .co (.int J)) (cN (ut.q.ps.eW (n:=g+20) J (bX J J (ac J)) (.cons (.lo J) .nil) (Gf v B f y _ _ mk ut.q.ps (p.go u.o (of_decide_eq_true J) (of_decide_eq_true J) (of_decide_eq_true J)) (I u.o.d (iO lv (ac J))) (λz=>no' λx a=>?_) λs5 h5 v5 z5 o5 w5 wv=>?_)))
   ·rcases aZ.mp mk with k|k
    ·refine aM ((wf x a).gp) λr1 a1 e1=>?_;have hn:=qy (z r1 ((a1.only J).gJ k));revert e1;refine I hn λe1=>aM (Aw.eG e1) λr2 a2 e2=>?_;revert e2;exact I (a2.none J (I k (of_decide_eq_true J))) λe2=>e2.iz.none J (by show c.K y.i∉_;exact I k (of_decide_eq_true J))
    ·have k:=ao.mp k;refine aM (((wf x a).hF J (I k (of_decide_eq_true J))).eG) λr2 a2 e2=>?_;have hn:=qy (z r2 ((a2.only J).gJ k));revert e2;exact I hn λe2=>e2.iz.none J (by show c.K y.i∉_;exact I k (of_decide_eq_true J))
   ·have lt:=Pc.lt ((of_decide_eq_true J:∀k∈([46,58]:ag aF),k≠287) _ mk);have u5:=ut.to z5 o5;have lt5:y.i<s5.i:=by
     rcases aZ.mp mk with k|k
     ·exact W.lt (r:= .QT) u.q.ps.pE J λr a=>w5 r ((a.only J).gJ k)
     ·exact W.lt (r:= .Ca) u.q.ps.pE J λr a=>w5 r ((a.only J).gJ (ao.mp k))
    refine aW _ (by first|exact oU (by assumption) (by assumption) (by assumption)|lia:c.aw.length-s5.i<n) (tU s5 v5 (c.K y.i==58) J J ?_ (λz x a=>?_) (λz x a=>?_))
    ·cases k:c.K y.i==58 with
     |false=>exact u5.z (of_decide_eq_true J) (of_decide_eq_true J) (of_decide_eq_true J)
     |true=>
      have cb:=u.o.cb;have o6:=u5.o.nh (a':=2) (b':=1) (e':=0) (of_decide_eq_true J) (of_decide_eq_true J) (of_decide_eq_true J);exact⟨u5.q,o6.d,o6.lp,o6.va,o6.cS,o6.sy,o6.le,o6.ca,(by lia:c.sM s.i-s.made+(1+1)<=c.sM s5.i-s5.made),o6.ce⟩
    ·exact(wf x a).step λr a=>w5 r ((a.only J).gJ ((aZ.mp mk).resolve_right λm=>by rw[ao.mp m] at z;cases z))
    ·have k:=a6.mp z;refine aM (((wf x a).hF J (I k (of_decide_eq_true J))).eG) λr2 a2 e2=>?_;revert e2;exact I (w5 r2 ((a2.only J).gJ k)) λe2=>e2
end
section
variable{c:Pc}{X:Prop}{g n:D}{B:D->aD}{f:Fg}{i j o l:D}{b:av D}{s A:St}{h E:H}{L:bS}{Q:P1}
def Nb(c:Pc)(B:D->aD)(f:Fg)(j:D):Prop:=(∀r,An c .field B f j r->r=ax)/\∀r,An c .args B f j r->r=ax
theorem Nb.of(h:c.K j∉cO .behind):Nb c B f j:=⟨λr a=>a.none J λm=>h (nz m).2,λr a=>a.none J λm=>h (mB m).2⟩
theorem Ag.no{r:Rl}{g:ag Pp}(w:Ag c r B f g j b)(q:∀d,An c r B f j d->d=ax):Aw c g B f j b:=by
 refine aM w.gp λd a e=>?_;revert e;exact I (q d a) λe=>e
theorem q0{r:Rl}(w:Aw c [oR .head,.r r .kZ,.t .jZ] B f i b)(u:∀r,An c .head B f i r->r=ae o):∃p,Ac c r B f o 0 p/\Af c [.t .jZ] B f (if p.2=0 then ax else ae p.1) b:=by
 refine aM w.dY λd j a=>?_;revert a;refine I (u d j) λa=>cs a λn e=>?_;exact cY (yj e) λm p h g=>aW p (DT n m h) (Ci g)
theorem vf(w:Af c [.t .jZ] B f (ae j) b):(c.K j≠40/\b=ae j)\/(c.K j=40/\b=ax):=by
 by_cases k:c.K j=40
 ·exact .inr ⟨k,Aw.jZ w|>.2 k⟩
 ·exact .inl ⟨k,(Aw.jZ w|>.1 k).dq⟩
theorem ru.TD(q:ru c B f o j l)(n:Nb c B f j):∃d e,(∀p,Ac c .wJ B f o 0 p->p=(d,e))/\(d=j\/c.K d∈cO .args)/\(l=2->c.K d∈cO .args)/\(l=1->d=j/\e≠0)/\(l=0->e=0):=by
 refine wY q.gr λd e t s r x g=>i7 g λm k i=>?_;refine wU d e (λp a=>?_) r m k (λz=>(i z).2);refine aM ((t p a).gp) λw v h=>?_;revert h;exact I (n.1 _ ((s _ _ (v.only J).eM).no n.2).iz) λh=>h
theorem ru.Wm(q:ru c B f o j l)(n:Nb c B f j):∃d e,(∀p,Ac c .tail B f o 0 p->p=(d,e))/\(d=j\/c.K d∈cO .field)/\(l=2->d=j/\e≠0)/\(l=0->e=0)/\(l=1->c.K d∈cO .field):=by
 refine wY q.ta λd e t s r m g=>cv g λk i=>?_;refine wU d e (λp a=>?_) r m k i;refine aM ((t p a).gp) λw v h=>?_;revert h;exact I (n.2 _ ((s _ _ (v.only J).eM).no n.1).iz) λh=>h
theorem xz(w:An c .var B f i b)(m:c.K i∈[285,40]):∃a,Aw c [oR .head,.r .wJ .kZ,.t .jZ] B f i a/\(match a with|some j=>b=some j|none=>(c.K i≠285/\b=none)\/(c.K i=285/\Aw c [.t .jZ] B f (i+1) b)):=by
 refine cs w λn e=>?_;refine cs (wF e) λk e=>aM (uD (w1:=[oR .head,.r .wJ .kZ,.t .jZ]) (w2:=[tK 285,.t .jZ]) e) λa g d=>aW a ⟨k,g⟩ ?_;induction a with
 |some j=>exact d
 |none=>
  by_cases z:c.K i=285
  ·exact .inr ⟨z,k,vX d z⟩
  ·exact .inl ⟨z,zJ d z⟩
section
variable(u:∀r,An c .head B f i r->r=ae o)(C:c.K i=285->o=i+1)(sp:ru c B f o j l)(mi:c.K i∈[285,40])
include u sp mi
theorem V1(C:c.K i=285->o=i+1)(h:c.K j∉cO .behind)(r:l=1\/(l=0/\c.K i=285))(w:An c .var B f i b):b=ae j:=by
 have a:c.K j≠40:=λz=>h (I z (aa J));refine aM (xz w mi) λy x d=>aM (q0 x u) λp a2 e=>wY (sp.TD (.of h)) λG F v q q t s=>?_;revert e;refine I (v p a2) λe=>?_;rcases r with z|⟨z,g⟩
 ·revert a;refine wP j (t z) λn=>λa=>?_;rw[bG n] at e;rcases vf e with⟨_,rfl⟩|⟨m,_⟩
  ·exact d
  ·exact cq m a
 ·rw[cw (s z)] at e;revert d;refine I e λd=>?_;rcases d with⟨k,_⟩|⟨_,d⟩
  ·exact cq g k
  ·rw[<-C g,<-sp.k0.1 z] at d;exact(d.jZ.1 a).dq
theorem V0(C:c.K i=285->o=i+1)(n:Nb c B f j)(k:l=2\/c.K j∈cO .behind)(w:An c .var B f i b):b=ax\/∃h,b=ae h/\c.K h∈cO .behind:=by
 refine aM (xz w mi) λr F d=>aM (q0 F u) λp a2 g=>wY (sp.TD n) λt s y x v q q=>?_;revert g;refine I (y p a2) λg=>?_;have a:r=ax->b=ax\/∃h,b=ae h/\c.K h∈cO .behind:=λz=>by
  revert d;refine I z λd=>?_;rcases d with⟨_,rfl⟩|⟨z,d⟩
  ·exact .inl J
  ·rw[<-C z] at d;rcases vf (d) with⟨_,rfl⟩|⟨_,rfl⟩
   ·exact .inr (aW o J (k.elim (λz=>sp.k0.2 (I z (aa J))) sp.first))
   ·exact .inl J
 by_cases z:s=0
 ·rw[cw z] at g;exact a g
 ·rw[bG z] at g;rcases vf g with⟨_,rfl⟩|⟨_,rfl⟩
  ·exact .inr (aW t d (k.elim (λz=>(mB (v z)).2) λz=>x.elim (λe=>e▸z) λm=>(mB m).2))
  ·exact a J
theorem V3(g:c.K j∉cO .behind)(h:l=0)(k:c.K i=40)(w:An c .var B f i b):b=ax:=by
 refine aM (xz w mi) λr q d=>aM (q0 q u) λp a2 a=>wY (sp.TD (.of g)) λt s n e e e m=>?_;revert a;refine I (n p a2) λa=>?_;rw[cw (m h)] at a;revert d;exact I a λd=>(d.resolve_right λz=>by rw[k] at z;cases z.1).2
omit mi in
theorem C2(a:c.K j∉cO .behind)(m:l=2)(w:An c .call B f i b):b=ae j:=by
 refine aM (q0 (w.only J) u) λp a2 d=>wY (sp.Wm (.of a)) λq n k e h e e=>?_;revert d;refine I (k p a2) λd=>?_;revert a;refine wP j (h m) λz=>λa=>?_;rw[bG z] at d;rcases vf d with⟨_,r⟩|⟨g,_⟩
 ·exact r
 ·exact cq g λz=>a (I z (aa J))
omit mi in
theorem C0(n:Nb c B f j)(k:l=0\/l=1\/c.K j∈cO .behind)(w:An c .call B f i b):Fq c SU b:=by
 refine aM (q0 (w.only J) u) λp a2 a=>wY (sp.Wm n) λt s q h v g d=>?_;revert a;refine I (q p a2) λa=>?_;by_cases z:s=0
 ·rw[cw z] at a;exact .of a
 ·rw[bG z] at a;have r:c.K t∈cO .behind:=by
   rcases k with k|k|k
   ·exact cq (g k) z
   ·exact(nz (d k)).2
   ·exact h.elim (λe=>e▸k) λm=>(nz m).2
  rcases vf a with⟨y,rfl⟩|⟨_,y⟩
  ·intro x e;exact sb (si e) (((aa J):∀k∈([46,91,58,286,123,40]:ag aF),k≠40->SU k=am) _ r y)
  ·exact .of y
end
theorem Ds{K:jR}{x:V}{t:aF}{is:ag aF}(g:Look K h x (.bq (is.map .int))):Br K h (.int t) x (is.contains t):=by
 have e:uI (.int t) (is.map .int)=is.contains t:=by
  unfold uI
  refine I tI ?_;refine I J7 ?_
  congr 1
  funext i
  refine(?_ :(ae (t==i)==ae am)=(t==i))
  cases t==i<;>rfl
 refine e▸.seq (.inr g) ?_;unfold js;exact I lT (aS.mpr λa a=>rfl)
noncomputable abbrev Ej:ag Pp:=[tK 273,.r .iT .eG,.r .qw .eG]
theorem RB{V:aF}(Gx:Gc c X g (An c .iT) Bo 2 (-1) 67 [] W0)(Y:c.K s.i=273)(q:Pa c s h)(p:i9 c B f (-1) s)(lv:10*(40-s.d)+3<=g+1)(no:(∀b,Aw c Ej B f s.i b->Fq c nV b)->X)(x:∀A E v,Sp c s h A E->fZ c B s A 0 0 0->(∀b,Aw c Ej B f s.i b->Aw c [.r .qw .eG] B f A.i b)->eD E v kY->Q v E):P.call am X (g+1+20) (.fn 93) [.ref c.P,.int V] Q h:=by
 refine(?_ :P.call am X ((g+20)+1) _ _ _ _);refine bQ _ rfl J ((q.bu p).skip J Y (aa J) λZ F=>?_);have N:∀b,Aw c Ej B f s.i b->∃w,An c .iT B f (s.i+1) w/\Aw c [.r .qw .eG] B f (w.getD (s.i+1)) b:=λb a=>(a.gJ Y).eG;have W:=F.q.ps.kind (X:=X) (n:=g+19) (L:=[some (.ref c.P),some (.int V),none]) J;refine cZ (.or (.cj W .co (.s7 (Ds (is:=[260,261,262,276,287]) J))) (.OZ (.cj W .co (.int J))) λR=>rfl) (fQ (gT .co (.lo J) (dM ((show Et (Cn X (g+20)) (.l 2) _ Z (([260,261,262,276,287]:ag aF).contains (c.K (s.i+1))||c.K (s.i+1)==59) Z from .of J (.lo J) J) _ ?_))));cases G:(([260,261,262,276,287]:ag aF).contains (c.K (s.i+1))||c.K (s.i+1)==59) with
 |true=>
  refine dG J ?_;have m:c.K (s.i+1)∈([59,260,261,262,276,287]:ag aF):=by
   rcases hP _ _|>.mp G with z|z
   ·exact .tail _ (cg.mp z)
   ·exact I (a6.mp z) (.head _)
  refine pP (dP (dP (ci (n:=g+18) _ (x _ _ _ (((F.push _).push _).push _).q.sp (F.bL (aa J) (aa J) (aa J)) (λb a=>?_) (.i lk)))));refine aM (N b a) λw M t=>?_;revert t;exact I (M.none J (((aa J):∀k∈([59,260,261,262,276,287]:ag aF),k∉cO .iT) _ m)) λt=>t
 |false=>
  refine cM aC ?_;have G:=(vR).mp G;refine F.q.ps.eW (n:=g+20) J (bX J J (ac J)) .nil (F.go p Gx (aa J) (aa J) (aa J) (iO lv (ac J)) (λz=>no λb a=>?_) λs2 h2 v2 S R w2 R=>dP (ci (n:=g+18) _ (x _ _ _ ((S.push _).push _).q.sp (S.bL (aa J) (aa J) (aa J)) (λb a=>?_) (.i lk))))
  ·refine aM (N b a) λw M t=>?_;have U:=z w M;have T:∀k,Bo k=am->nV k=am/\k≠59:=λk z=>((aa J):∀k∈([44,43,45,278,280,46,91,58,123,286]:ag aF),nV k=am/\k≠59) k (cg.mp z);have H:∀j,nV (c.K j)=am->c.K j≠59->Aw c [.r .qw .eG] B f j b->Fq c nV b:=λj y y2 e=>by
    refine aM e.eG λr2 a2 O=>?_;revert O;exact I (a2.none J λm=>y2 (ao.mp m)) λO=>I (O.dq) λj' z=>Mi.sb (si z) y
   induction w with
   |none=>exact H _ (by unfold nV;exact I (G.1) J) (aK.mp G.2) t
   |some j=>exact H j (T _ (U j J)).1 (T _ (U j J)).2 t
  ·refine aM (N b a) λw M t=>?_;revert t;exact I (w2 w M) λt=>t
end
noncomputable abbrev JC:ag Pp:=[tK 61,oR .iT]
noncomputable abbrev Fj:ag Pp:=oR .var:: .r .aU .eM::JC
noncomputable def TP(c:ag D):aD:=[Np,Nu,Js].any λa=>c==a
theorem Ay{n:D}(l:n+1<=dW):Az (-1) (n+1)=ae n:=by
 unfold Az;exact dG l (cM (aa J) (dG (bO 0x35a2ba0902cac9ac8 J) (aL ae (VF))))
section
variable{c:Pc}{X:Prop}{g n:D}{B:D->aD}{f:Fg}{i j E l:D}{b:av D}{s A:St}{h y:H}{L:bS}{Q:P1}{C:av D->Prop}
theorem Mt:∀k,SU k=am->xg k=am:=uV (S:=[46,91,58,123,286]) (aa J)
theorem MC(w:An c .row B f i b)(m:c.K i∈[285,40]):∃a,Aw c Fj B f i a/\(match a with|some j=>b=some j|none=>An c .call B f i b):=by
 refine cs (w.elim λn e=>BW [285,40] e J m) λk e=>aM (uD (w1:=Fj) (w2:=[oR .call]) e) λa g d=>aW a ⟨k,g⟩ ?_;induction a with
 |some j=>exact d
 |none=>exact Aw.iz ⟨k,d⟩
def Tg(c:Pc)(B:D->aD)(f:Fg)(C:av D->Prop)(j:D)(h:H)(v:V):Prop:=∃d,eD h v d/\((TP d=am/\∀a,C a->Ag c .aU B f JC j a)\/(TP d=ai/\∀a,C a->a=ax))
theorem Dt(W:oA c)(l:i<=c.aw.length)(d:∀r,An c .head B f i r->r=ae E):c.K i∈([285,40]:ag aF):=by
 refine aM (W.A6 .head B f i l) λr a e=>?_;by_cases m:c.K i∈([285,40]:ag aF)
 ·exact m
 ·cases(a.none J m).symm.trans (d r a)
theorem PV.tg{v:V}(s:PV c i h v l)(mi:c.K i∈([285,40]:ag aF))(o:∀r,An c .head B f i r->r=ae E)(p:c.K i=285->E=i+1)(m:ru c B f E j l)(n:c.K j∉cO .behind)(ok:(∀r,An c .var B f i r->r=ae j)->∀e,C e->Ag c .aU B f JC j e)(g:(∀r,An c .var B f i r->r=ax\/∃q,r=ae q/\c.K q∈cO .behind)->∀e,C e->e=ax):Tg c B f C j h v:=by
 rcases s with⟨rfl,t⟩|⟨rfl,d⟩|⟨rfl,d⟩
 ·rcases t with⟨k,d⟩|⟨k,d⟩
  ·exact aW _ d (.inr ⟨rfl,g λr a=> .inl (V3 o m mi n J k a)⟩)
  ·have:=ok λr a=>V1 o m mi p n (.inr ⟨rfl,k⟩) a;rcases d with d|d
   ·exact aW _ d (.inl ⟨rfl,this⟩)
   ·exact aW _ d (.inl ⟨rfl,this⟩)
 ·exact aW _ d (.inl ⟨rfl,ok λr a=>V1 o m mi p n (.inl J) a⟩)
 ·have:=g λr a=>V0 o m mi p (.of n) (.inl J) a;rcases d with d|d
  ·exact aW _ d (.inr ⟨rfl,this⟩)
  ·exact aW _ d (.inr ⟨rfl,this⟩)
theorem Tg.keep{v:V}(q:Tg c B f C j h v)(k:∀(m:D) d,h[m]? =ae (.inst 5 d)->y[m]? =ae (.inst 5 d)):Tg c B f C j y v:=aM q λi a z=>wW a λn l p e g=>(aW i (oK n l p e (k _ _ g)) z)
theorem nK{K:jR}{x:V}{t:ag D}{is:ag (ag D)}(g:Look K h x (.list (is.map .str))\/Look K h x (.bq (is.map .str))):Br K h (.str t) x (is.any λa=>t==a):=by
 have e:uI (.str t) (is.map .str)=is.any λa=>t==a:=by
  unfold uI
  refine I tI ?_
  congr 1
  funext i
  refine(?_ :(ae (t==i)==ae am)=(t==i))
  cases t==i<;>rfl
 refine e▸.seq g ?_;unfold js;exact I lT (aS.mpr λc c=>rfl)
theorem Ai(w:Ag c .aU B f JC j b)(k:c.K j=44)(q:∀r,An c .var B f (j+1) r->r=ax\/∃d,r=ae d/\c.K d∈cO .behind):b=ax:=by
 refine aM w.gp λh i g=>?_;have a:∀k∈([46,91,58,286,123,40]:ag aF),k∉cO .aU/\k≠61:=aa J;rcases q h ((i.only J).gJ k).iz with rfl|⟨d,rfl,e⟩
 ·exact Aw.nk g (I k (aa J))
 ·exact((Ag.hF g J (a _ e).1).nk (a _ e).2)
theorem PF.var(q:PF c B f i)(r:av D)(a:An c .var B f i r):r=ax\/∃g,r=ae g/\c.K g∈cO .behind:=by
 by_cases e:c.K i∈([285,40]:ag aF)
 ·rcases q with q|⟨E,j,l,t,s,h,p,n,o⟩
  ·refine aM (xz a e) λw v d=>aM v.dY λm a2 u=>?_;cases q m a2;revert d;refine I u λd=>?_;rcases d with⟨_,rfl⟩|⟨k,d⟩
   ·exact .inl J
   ·exact nomatch ((a2.f6 [285] J (ao.mpr k) J).gJ k).dq
  ·exact V0 t h e s ⟨n,o⟩ (.inr p) a
 ·exact .inl (a.none J e)
theorem RL(W:oA c){ln:aF}(Gq:Gp c X g)(Gx:Gc c X g (An c .iT) Bo 2 (-1) 67 [] W0)(nk:c.K s.i∉[259,277,272,266,264,265,268])(q:Pa c s h)(p:i9 c B f (-1) s)(lv:10*(40-s.d)+7<=g+1)(no:(∀b,An c .row B f s.i b->Fq c xg b)->X)(yes:∀A y v,Sp c s h A y->fZ c B s A 0 0 0->(∀b,An c .row B f s.i b->b=some A.i)->(∃kd,eD y v kd/\(kd==kY||kd==lM)=ai)->Q v y):P.call am X (g+1+20) (.fn 94) [.ref c.P,.int ln] Q h:=by
 refine(?_ :P.call am X ((g+20)+1) _ _ _ _)
 refine bQ _ rfl J (cN (q.eW (n:=g+20) J (bX J J (ac J)) .nil (Gq B f s h _ q (p.le (aa J)) (iO lv (ac J)) (λz=>no λb a=>?_) λs1 h1 v1 E l z1 o1 hw jn sp nb pv=>?_)))
 ·by_cases m:c.K s.i∈([285,40]:ag aF)
  ·refine aM (MC a m) λr1 a1 e1=>aM a1.dY λr2 a2 e2=>?_
   have n1:r1=none:=by
    rcases z.var r2 a2 with rfl|⟨j',rfl,kb⟩
    ·exact e2
    ·have no61:∀k∈([46,91,58,286,123,40]:ag aF),k∉cO .aU/\k≠61:=aa J
     exact(Aw.eM e2).hF J (no61 _ kb).1|>.nk (no61 _ kb).2
   revert e1;refine I n1 λe1=>?_
   rcases z with z|⟨E,j,l,hw,jn,sp,kb,nf,na⟩
   ·refine aM ((An.only e1 J).dY) λr3 a3 e3=>?_
    revert e3;exact I (z r3 a3) λe3=> .of e3
   ·exact(C0 hw sp ⟨nf,na⟩ (.inr (.inr kb)) e1).fH Mt
  ·refine .of (a.none J λz=>?_)
   have z:c.K s.i∈([259,277,272,266,264,265,268,285,40]:ag aF):=z
   simp only [aZ,fX,vH] at z nk m
   exact VE z nk m
 have mi:=Dt W q.pE hw
 have u1:Bu c B s h [] 0 0 0 s1 h1:=⟨q.pz.to z1,o1⟩
 have ir:=λb (a:An c .row B f s.i b)=>MC a mi
 have kin:∀(kd:ag D),eD h1 v1 kd->Et (Cn X (g+20)) (.cj .In (.at (.l 2) 12) (.bq [.c (.str wr),.c (.str wj)])) [some (.ref c.P),some (.int ln),some v1,none,none] h1 ([wr,wj].any λa=>kd==a) (h1++[.bq ([wr,wj].map .str)]):=λkd z_0=>wW z_0 λn1 l1 p1 e1 g1=>by
  exact I e1 (.cj (.at (.lo J) (.i g1 J J)) (.bq (.cons .co (.cons .co .nil))) (.s7 (nK (is:=[wr,wj]) (.inr lk))))
 by_cases l2:l=2
 ·have hc:∃kd,eD h1 v1 kd/\([wr,wj].any λa=>kd==a)=am:=by
   revert pv;refine I l2 ?_;intro pv
   rcases pv with⟨z,_⟩|⟨z,_⟩|⟨_,nd|nd⟩
   ·cases z
   ·cases z
   ·exact aW _ nd J
   ·exact aW _ nd J
  refine aM hc λkd nd ek=>?_
  refine bT (ek▸kin kd nd) (cJ (.cls (.cons .co (.cons (.lo J) (.cons (.eS (.cons (.lo J) .nil)) .nil))) (ci (n:=g+18))) (yes s1 _ _ (((u1.push _).push _).push _).q.sp u1.o (λb a=>?_) (aW ([99,97,108,108,115,116,97,116]) (.i lk) (aa J))))
  ·refine aM (ir b a) λr1 a1 e1=>aM a1.dY λr2 a2 e2=>?_
   have n1:r1=none:=by
    have no61:∀k∈([46,91,58,286,123,40]:ag aF),k∉cO .aU/\k≠61:=aa J
    rcases V0 hw sp mi jn (.of nb) (.inl l2) a2 with rfl|⟨j',rfl,kb⟩
    ·exact e2
    ·exact(Aw.eM e2).hF J (no61 _ kb).1|>.nk (no61 _ kb).2
   revert e1;exact I n1 λe1=>C2 hw sp nb l2 e1
 have no61:∀k∈([46,91,58,286,123,40]:ag aF),k∉cO .aU/\k≠61:=aa J
 have fb:∀r1 b,(match r1 with|some j=>b=some j|none=>An c .call B f s.i b)->Fq c Bo r1->Fq c xg b:=λr1 b e q=>by
  induction r1 with
  |some j=>exact I e (q.fH FJ)
  |none=>exact(C0 hw sp (.of nb) (((pv.elim (λz=> .inl z.1) λz=>z.elim (λz=> .inr z.1) λz=>cq z.1 l2):l=0\/l=1).imp id .inl) e).fH Mt
 have fbn:(∀r1,Aw c Fj B f s.i r1->r1=none)->X:=λz=>no λb a=>aM (ir b a) λr1 a1 e1=>fb r1 b e1 (.of (z r1 a1))
 have tg1:Tg c B f (Aw c Fj B f s.i) s1.i h1 v1:=pv.tg mi hw jn sp nb (λz r1 a=>by
  refine aM a.dY λr2 a2 e2=>?_
  revert e2;exact I (z r2 a2) λe2=>Aw.eM e2) λz r1 a=>by
  refine aM a.dY λr2 a2 e2=>?_
  rcases z r2 a2 with rfl|⟨j',rfl,kb⟩
  ·exact e2
  ·exact(Aw.eM e2).hF J (no61 _ kb).1|>.nk (no61 _ kb).2
 have nocall:∃kd,eD h1 v1 kd/\([wr,wj].any λa=>kd==a)=ai:=by
  rcases pv with⟨_,hd⟩|⟨_,nd⟩|⟨z,_⟩
  ·rcases hd with⟨_,nd⟩|⟨_,nd|nd⟩<;>exact aW _ nd J
  ·exact aW _ nd J
  ·exact cq z l2
 refine aM nocall λkd1 nd1 nc1=>?_
 have ut:=(u1.push (.bq ([wr,wj].map .str))).new (.list [v1])
 refine bm (nc1▸kin kd1 nd1) (cZ (.eS (.cons (.lo J) .nil)) ?_)
 generalize hm:(h1++[O.bq ([wr,wj].map .str)]).length=m at ut
 refine oY (λn L y=>∃(A:St) (xs:ag V) (v:V) (o4:av V),L=[some (.ref c.P),some (.int ln),some v1,some (.ref m),o4]/\n=c.aw.length-A.i/\Bu c B s h [(m,.list (xs++[v]))] (Y7 xs) 0 0 A y/\Tg c B f (Aw c Fj B f s.i) A.i y v) _ (NV s1 ([]) v1 none J J ut (tg1.keep λm fs g=>bH (bH g))) λn L y st=>Ql st λA xs v o4 e1 en u tg=>?_
 refine I e1 ?_
 have pd:=p.d
 have lx:=Ax 0x3590b06eadd284baaac00ecac9baaac2128ac1aab003 J u.o.ca pd (W.d A.i)
 have ll:(xs++[v]).length=Y7 xs+1:=by refine I au ?_;rfl
 refine aM (id tg) λkd o_1 tk=>wW o_1 λnv l3 p3 ev gv=>?_
 have kt:Et (Cn X (g+20)) (.cj .NotIn (.at (.sub (.l 3) (.neg (.c (.int 1)))) 12) (.c (.aV 20))) [some (.ref c.P),some (.int ln),some v1,some (.ref m),o4] y (!TP kd) y:= .cj (.at (.sub (.lo J) (.neg .co) (.list (u.q.get (.head _)) (I ll (Ay (by exact bO 0x356227a0268240ba42c0 J lx))) (by refine I (cF (aE _)) ?_;exact I (je ..) (aL some ev)))) (.i gv J J)) .co (.MO (nK (is:=[Np,Nu,Js]) (.inr J)))
 refine dO am _ (λQ q=>(aW am J q)) (dG J ?_)
 rcases tk with⟨ak,wv⟩|⟨ak,wn⟩
 ·rw[ak] at kt
  refine bm kt (ua (so (u.pI J (aa J) (λn1=>?_) λk1 h2 u2=>?_)))
  ·refine dG (aa J) (u.take (f:=f) (ps:=[oR .iT]) J (λr1 a=>(wv r1 a).hF J λm=>n1 (ao.mp m)) J (aa J) fbn λh3 u3 w3=>fQ (gT .co (.lo J) (jb (.lo J) (dM (u3.q.ps.eW (n:=g+20) J (bX J J (ac J)) .nil (u3.call w3 p Gx (by refine(?_ : -1<=-1+(((Y7 xs):aF)+0));exact bO 0x35a28ac8ac0b2b26cac9 J) (aa J) (aa J) (iO lv (ac J)) J (λz=>no λb a=>?_) λs4 h4 v4 u4 w4 x_=>dP (ci (n:=g+18) _ ?_)))))))
   ·exact aM (ir b a) λr1 a1 e1=>fb r1 b e1 (z r1 a1)
   ·refine yes s4 _ _ ((u4.push _).push _).q.sp (u4.bL (by refine(?_ :0<=((Y7 xs):aF)+0);exact bO 0xd68ac8ac0ac8 J) (aa J) (aa J)) (λb a=>?_) (aW ([97,115,115,105,103,110]) (.i lk) (aa J))
    refine aM (ir b a) λr1 a1 e1=>?_
    revert e1;exact I ((w4 r1 a1).dq) λe1=>e1
  ·refine cM (aa J) (mD (wN (.lo J) (u2.q.get (.head _)) (u2.q.ps.eW (n:=g+20) J (bX J J (ac J)) .nil (Gq B f _ h2 _ u2.q.ps (p.go u2.o (by refine(?_ : -2<=-1+(((Y7 xs):aF)+1));exact bO 0x35a28ac9ac0b2b26caca J) (aa J) (aa J)) (I u2.o.d (iO lv (ac J))) (λz=>fbn λr1 a=>Ai (wv r1 a) k1 z.var) λs3 h3 v3 j3 l3 z3 o3 hw3 jn3 sp3 nb3 pv3=>?_))))
   have u3:=(u2.q.to z3)
   have o3':=(u2.o.trans o3).nh (a':=((Y7 xs+1:D):aF)) (b':=0) (e':=0) (by refine(?_ :((Y7 xs+1:D):aF)<=Y7 xs+1+0);exact bO 0x35a2b228ac9ac0ae8240 J) (aa J) (aa J)
   have g3:=u3.get (.head _)
   refine bQ _ g3 (by refine I ll ?_;exact bO 0x356227a0268240ba42c0 J lx) ?_
   have q4:=u3.wZ (ys:=xs++[v]++[v3]) (show h.length<=m by exact I (aQ hm) ((u1.push _).q.nx.sz)) nofun
   have l4:(xs++[v]++[v3]).length=Y7 xs+2:=by refine I au ?_;refine I ll ?_;rfl
   have ca3:=o3'.ca
   have wd3:=W.d s3.i
   have tg3:=pv3.tg (Dt W u2.q.ps.pE hw3) hw3 jn3 sp3 nb3 (λz r1 a=>(wv r1 a).step λr2 a2=>z r2 ((a2.only J).gJ k1).iz) λz r1 a=>Ai (wv r1 a) k1 z
   refine cZ (v:= .int ((40-s3.d:aF))) (.dy (q4.ps.dW (v:= .int 40) J J J) (q4.ps.at J J J) (.int (mJ J (dU (Ax 0xd5889e8090aeadd284baaac2128ae8241aab003baaac00ecac9 J pd ca3 wd3))))) (bm (bj (a:=((Y7 xs+1:D):aF)) (.dy (.bi (.cons (.lo J) .nil) (nD.list (show Look _ _ (.ref m) _ from(q4.get (.head _))) (by refine I l4 ?_;exact bO 0x356227a0268280ba42c0 J lx))) .co (.int (I l4 ((mJ (dU (bO 0x356227a0268280ba42c0 J lx)) J).trans (aL some (bO 0xdeba0902aac9ae8280 J)))))) (.lo J) (aL some (aO (Ax 0xe6ba0906aac2ae02aeadd284baaac2128ae8241aab003baaac00ecac9 J pd ca3 wd3)))) ?_)
   have le3:=o3.le
   have lt:=Pc.lt (I k1 (aa J))
   refine aW (c.aw.length-s3.i) (by first|exact oU (by assumption) (by assumption) (by assumption)|lia) (NV s3 (xs++[v]) v3 _ rfl J ⟨q4,?_⟩ (tg3.keep λm fs g=>iy g3 nofun g))
   exact I ll o3'
 ·rw[ak] at kt
  exact bT kt (lW (n:=g+14) u.q.ps J (fbn wn) (ac J))
end
def Ro(c:Pc)(X:Prop)(g:D):Prop:=∀(B:D->aD) (f:Fg) (s:St) (h:H) (Q:P1) (a:aF),c.K s.i=273->Pa c s h->i9 c B f (-1) s->10*(40-s.d)+3<=g->((∀m,Aw c Ej B f s.i m->Fq c nV m)->X)->(∀C x v,Sp c s h C x->fZ c B s C 0 0 0->(∀m,Aw c Ej B f s.i m->Aw c [.r .qw .eG] B f C.i m)->eD x v kY->Q v x)->P.call am X (g+20) (.fn 93) [.ref c.P,.int a] Q h
def Rp(c:Pc)(X:Prop)(g:D):Prop:=∀(B:D->aD) (f:Fg) (s:St) (h:H) (Q:P1) (b:aF),c.K s.i∉[259,277,272,266,264,265,268]->Pa c s h->i9 c B f (-1) s->10*(40-s.d)+7<=g->((∀m,An c .row B f s.i m->Fq c xg m)->X)->(∀C x v,Sp c s h C x->fZ c B s C 0 0 0->(∀m,An c .row B f s.i m->m=ae C.i)->(∃a,eD x v a/\(a==kY||a==lM)=ai)->Q v x)->P.call am X (g+20) (.fn 94) [.ref c.P,.int b] Q h
def TQ(c:Pc)(X:Prop)(g:D):Prop:=∀(B:D->aD) (f:Fg) (s:St) (h:H) (Q:P1),f.lp=decide (s.hd.dB≠0)->Pa c s h->i9 c B f (-1) s->10*(40-s.d)+9<=g->
 (((c.K s.i∉[273,258]/\∀r,An c .row B f s.i r->Fq c xg r)\/(c.K s.i∈[273,258]/\∀r,An c .eY B f s.i r->Fq c nV r))->X)->
 (∀C x v a,Sp c s h C x->fZ c B s C 0 0 0->eD x v a->(((a==kY||a==lM)=ai/\∀r,An c .row B f s.i r->r=ae C.i)\/((a==kY||a==lM)=am/\c.K s.i∈[273,258]/\∀r,An c .eY B f s.i r->Aw c [.r .qw .eG] B f C.i r))->Q v x)->P.call am X (g+20) (.fn 82) [.ref c.P] Q h
section
variable{c:Pc}{X:Prop}{g n:D}{B:D->aD}{f:Fg}{i j E l:D}{m:av D}{s C:St}{h x:H}{L:bS}{Q:P1}{F:av D->Prop}{ps:ag Pp}
theorem Aw.brk(w:Aw c (.t .brk::ps) B f i m)(h:c.K i=258):(f.lp=am->Aw c ps B f (i+1) m)/\(f.lp=ai->m=ax):=by
 refine cs w λn e=>?_;refine dN e λd b a=>?_;have b:ae (if c.K i=258/\f.lp=am then ae (i+1) else ax)=ae d:=b;refine⟨λz=>?_,λz=>?_⟩
 ·rw[cw ⟨h,z⟩] at b;revert a;exact sb (si b) λa=>⟨n,a⟩
 ·rw[bG λq=>by rw[z] at q;cases q.2] at b;revert a;exact sb (si b) λa=>a
theorem uC(w:An c .row B f i m)(h:c.K i=268):(c.K (i+1)=265->Aw c EG B f (i+2) m)/\(c.K (i+1)≠265->zD c B f (i+1) m):=by
 refine cs w λn e=>?_;refine cs (BW [268] e J (ao.mpr h)) λk e=>aM (uD (w1:=tK 268::tK 265::EG) (w2:=[tK 268,oR .names,.r .init .eG]) e) λl g a=>⟨λz=>?_,λz=>?_⟩
 ·have d:=vX (vX g h) z;induction l with
  |some j=>exact I a (⟨k,d⟩)
  |none=>
   refine dN (vX a h) λo a2 b=>?_;revert b;exact I (yC a2 J (by show c.K (i+1)∉_;exact I z (aa J))) λb=>I b (⟨k,d⟩)
 ·revert a;exact I (zJ (vX g h) z) λa=>⟨k,vX a h⟩
theorem AN(W:oA c)(Gi:∀e,vd e->Gw c X g [266] (Aw c EP) SN 2 (-1) 83 [.int e] WK)(Fr:∀e,vd e->Gw c X g [277] (Aw c [tK 277,oR .fU,tK 259,oR .gq,tK 262]) SN 3 (-1) 84 [.int e] WK)(Gb:Gw c X g [] (An c .block) nV 1 0 80 [] W0)(Gf:∀e,vd e->Gw c X g [264] (An c .row) SN 4 (-1) 86 [.int e] WK)(GE:∀e,vd e->Gw c X g [272] (Aw c [tK 272,oR .gq,tK 276,oR .fU]) SX 2 (-1) 85 [.int e] WK)(IO:∀e,vd e->Gw c X g [265] (Aw c zF) SN 2 (-1) 90 [.int e] WK)(Id:Co c X g 91 (Aw c EG) SN 2 1)(GT:Co c X g 92 (zD c) xg 1 (-1))(Gr:Ro c X g)(Ge:Rp c X g):TQ c X (g+1):=λB f s h Q hl q p lv no H=>by
 refine(?_ :P.call am X ((g+20)+1) _ _ _ _)
 have e:=Pc.qk (s:=s) q.ok
 have u:=(q.bu p).push (.bq [.int (c.ln s),.int (c.K s.i)])
 refine bQ _ rfl J (pY (.bq (.cons (q.line J) (.cons (q.kind (n:=g+19) J) .nil))) lk J ?_)
 have go:∀{a fn:D} {ks:ag aF} {k:aF} {S:aF->aD} {aj:D} {A:(D->aD)->Fg->D->av D->Prop} {L:bS} {R:PS},Gw c X g ks A S aj (-1) fn [.int (c.ln s)] WK->k∈ks->c.K s.i=k->k∉[273,258]->(∀r,An c .row B f s.i r->A B f s.i r)->(∀k,S k=am->xg k=am)->aj<9->P.fI 9 a=ae fn/\(xa c (.ref s.hd.r) s.d s.made).lookup a=ax/\a<1000->L[0]? =ae (ae (.ref c.P))->L[1]? =ae (ae (.int (c.ln s)))->(∀v x,Q v x->R (.ret v) L x)->cD (Cn X (g+20)) [.re (ae (.me (.l 0) a [.l 1]))] L R (h++[O.bq [.int (c.ln s),.int (c.K s.i)]]):=λG mk ek nk wA sS ll hm l0 l1 hR=>
  fQ (u.q.ps.eW (n:=g+20) l0 hm (.cons (.lo l1) .nil) (G B f s _ _ (.inr (ek▸mk)) hl u.q.ps p (iO lv ll) (λz=>no (.inl ⟨ek▸nk,λr a=>(z r (wA r a)).fH sS⟩)) λC x v z o w j=>aM j λkd Y N=>hR v x (H C x v kd (u.q.to z).sp o Y (.inl ⟨N,λr a=>w r (wA r a)⟩))))
 by_cases k1:c.K s.i=266
 ·exact bT (bj (.lo J) .co (iA k1)) (go (Gi _ e) (ao.mpr J) k1 (aa J) (λr a=>a.f6 [266] J (ao.mpr k1) J) nofun (ac J) (bX J J (ac J)) J J λT T z=>z)
 refine bm (bj (.lo J) .co (ib k1)) ?_
 by_cases k2:c.K s.i=277
 ·exact bT (bj (.lo J) .co (iA k2)) (go (Fr _ e) (ao.mpr J) k2 (aa J) (λr a=>a.f6 [277] J (ao.mpr k2) J) nofun (ac J) (bX J J (ac J)) J J λT T z=>z)
 refine bm (bj (.lo J) .co (ib k2)) ?_
 by_cases k3:c.K s.i=259
 ·have w1:=λm (a:An c .row B f s.i m)=>(a.f6 [259] J (ao.mpr k3) J).gJ k3
  have af:(∀m,An c .row B f s.i m->m=ax)->X:=λz=>no (.inl ⟨(show c.K s.i∉([273,258]:ag aF) by exact I k3 (aa J)),λr a=> .of (z r a)⟩)
  refine bT (bj (.lo J) .co (iA k3)) (u.skip J k3 (aa J) λh2 M=>cN (gT .co (.lo J) (dM (M.q.ps.eW (n:=g+20) J (bX J J (ac J)) .nil (M.block w1 p Gb hl (aa J) (aa J) (aa J) (iO lv (ac J)) (λz=>af λm a=>?_) λs3 h3 v3 u3 w3 T=>dP (ci (n:=g+18) _ ?_))))))
  ·exact aM ((w1 m a).dY) λr1 a1 e1=>e1.rD (z r1 a1) (aa J)
  ·refine((u3.push _).new _).m9 (o:=259) J w3 J e J J (aa J) af λZ u4 w4=>cJ (.lo J) (H _ Z _ [100,111] u4.q.sp (u4.bL (aa J) (aa J) (aa J)) (.i (u4.q.get (.head _))) (.inl ⟨aa J,λr a=>(w4 r a).dq⟩))
 refine bm (bj (.lo J) .co (ib k3)) ?_
 by_cases k4:c.K s.i=264
 ·exact bT (bj (.lo J) .co (iA k4)) (go (Gf _ e) (ao.mpr J) k4 (aa J) (λr a=>a) nofun (ac J) (bX J J (ac J)) J J λT T z=>z)
 refine bm (bj (.lo J) .co (ib k4)) ?_
 by_cases k5:c.K s.i=272
 ·exact bT (bj (.lo J) .co (iA k5)) (go (GE _ e) (ao.mpr J) k5 (aa J) (λr a=>a.f6 [272] J (ao.mpr k5) J) (λk z=>FJ k (FG k z)) (ac J) (bX J J (ac J)) J J λT T z=>z)
 refine bm (bj (.lo J) .co (ib k5)) ?_
 by_cases k6:c.K s.i=265
 ·exact bT (bj (.lo J) .co (iA k6)) (go (IO _ e) (ao.mpr J) k6 (aa J) (λr a=>a.f6 [265] J (ao.mpr k6) J) nofun (ac J) (bX J J (ac J)) J J λT T z=>z)
 refine bm (bj (.lo J) .co (ib k6)) ?_
 by_cases V:c.K s.i=268
 ·have nk:c.K s.i∉([273,258]:ag aF):=by refine I V ?_;exact aa J
  have pb:=p.b
  have pn:=p.n
  refine bT (bj (.lo J) .co (iA V)) (u.skip J V (aa J) λh2 M=>fQ ?_)
  have e1:c.sM (s.i+1)=c.sM s.i+1:=by refine(?_ :c.sM s.i+wM (c.K s.i)=_);refine I V ?_;rfl
  refine(M.pI J (aa J) (λn1=>?_) λU h3 u3=>?_)
  ·exact cM aC (M.q.ps.eW (n:=g+20) J (bX J J (ac J)) (.cons (.lo J) .nil) (GT B f _ h2 _ _ e M.q.ps (p.go M.o (aa J) (aa J) (aa J)) (by refine(?_ :(s.made:aF)+1<=c.sM (s.i+1));exact Bi 0xd42a2b26b030a2b2410b4b81ac0 J pb e1) (by refine(?_ :(s.hd.n:aF)+1<=c.sM (s.i+1));exact Bi 0xd42a2b26b030a2b2410b4b81ac0 J pn e1) (I M.o.d (iO lv (ac J))) (λz=>no (.inl ⟨nk,λr a=>z r ((uC a V).2 n1)⟩)) λs4 Z v4 z4 o4 w4 j=>aM j λkd Y N=>H s4 Z v4 kd (M.q.to z4).sp ((M.o.trans o4).nh (aa J) (aa J) (aa J)) Y (.inl ⟨N,λr a=>w4 r ((uC a V).2 n1)⟩)))
  ·refine dG J ?_
   have e2:c.sM (s.i+2)=c.sM (s.i+1)+1:=by refine(?_ :c.sM (s.i+1)+wM (c.K (s.i+1))=_);refine I (U) ?_;rfl
   exact u3.q.ps.eW (n:=g+20) J (bX J J (ac J)) (.cons (.lo J) .nil) (Id B f _ h3 _ _ e u3.q.ps (p.go u3.o (aa J) (aa J) (aa J)) (by refine(?_ :(s.made:aF)+2<=c.sM (s.i+2));exact MW 0x350e8acaac0c28ac9083d30a2b2410b4b81ac0 J pb e1 e2) (by refine(?_ :(s.hd.n:aF)+2<=c.sM (s.i+2));exact MW 0x350e8acaac0c28ac9083d30a2b2410b4b81ac0 J pn e1 e2) (I u3.o.d (iO lv (ac J))) (λz=>no (.inl ⟨nk,λr a=> .of (qy (z r ((uC a V).1 U)))⟩)) λs4 Z v4 z4 o4 w4 j=>aM j λkd Y N=>H s4 Z v4 kd (u3.q.to z4).sp ((u3.o.trans o4).nh (aa J) (aa J) (aa J)) Y (.inl ⟨N,λr a=>w4 r ((uC a V).1 U)⟩))
 refine bm (bj (.lo J) .co (ib V)) ?_
 by_cases U:c.K s.i=273
 ·have mk:c.K s.i∈([273,258]:ag aF):=by refine I U ?_;exact aa J
  have wl:=λr (a:An c .eY B f s.i r)=>a.f6 [273] J (ao.mpr U) J
  exact bT (bj (.lo J) .co (iA U)) (fQ (u.q.ps.eW (n:=g+20) J (bX J J (ac J)) (.cons (.lo J) .nil) (Gr B f s _ _ _ U u.q.ps p (iO lv (ac J)) (λz=>no (.inr ⟨mk,λr a=>z r (wl r a)⟩)) λs4 Z v4 z4 o4 w4 Y=>H s4 Z v4 _ (u.q.to z4).sp o4 Y (.inr (bX J mk (λr a=>w4 r (wl r a)))))))
 refine bm (bj (.lo J) .co (ib U)) ?_
 by_cases k9:c.K s.i=258
 ·have mk:c.K s.i∈([273,258]:ag aF):=by refine I k9 ?_;exact aa J
  have wl:=λr (a:An c .eY B f s.i r)=>(a.f6 [258] J (ao.mpr k9) J).brk k9
  refine bT (bj (.lo J) .co (iA k9)) (u.skip J k9 (aa J) λh2 M=>m8 (t:=((s.hd.dB:aF)==0)) (bj (M.q.ps.sc J J λna=>rfl) .co J) (λz=>?_) λz=>?_)
  ·refine lW (n:=g+14) M.q.ps J (no (.inr ⟨mk,λr a=> .of ((wl r a).2 ?_)⟩)) (ac J)
   refine(?_ :f.lp=ai)
   exact I hl (aO λy=>y (nF (a6.mp z)))
  ·refine cJ (.cls (.cons .co (.cons (.lo J) (.cons (.eS .nil) .nil))) (ci (n:=g+18))) (H _ _ _ lM ((M.push _).push _).q.sp (M.bL (aa J) (aa J) (aa J)) (.i lk) (.inr (bX J mk (λr a=>(wl r a).1 (?_ :f.lp=am)))))
   exact I hl (aR λy=>by rw[y] at z;cases z)
 refine bm (bj (.lo J) .co (ib k9)) (fQ (u.q.ps.eW (n:=g+20) J (bX J J (ac J)) (.cons (.lo J) .nil) (Ge B f s _ _ _ ?_ u.q.ps p (iO lv (ac J)) (λz=>no (.inl ⟨?_,z⟩)) λs4 Z v4 z4 o4 w4 j=>aM j λkd Y N=>H s4 Z v4 kd (u.q.to z4).sp o4 Y (.inl ⟨N,w4⟩))))
 ·simp only [aZ,fX,vH]
  exact VD k1 k2 k3 k4 k5 k6 V
 ·simp only [aZ,fX,vH]
  exact VC U k9
end
noncomputable def SS:aF->aD:=λk=>nV k&& !([273,258]:ag aF).contains k
section
variable{c:Pc}{X:Prop}{g n:D}{B:D->aD}{f:Fg}{i j x l:D}{e:av D}{s p:St}{h t:H}{L:bS}{Q:P1}{ps:ag Pp}
theorem rw_ss:∀k,xg k=am->SS k=am:=λk z=>((aa J):∀k∈([61,44,43,45,278,280,46,91,58,123,286]:ag aF),SS k=am) k (cg.mp z)
theorem uB(w:Aw c [.r .qw .eG] B f j e):(c.K j=59->e=ae (j+1))/\(c.K j≠59->e=ae j):=by
 refine aM w.eG λd b a=>⟨λz=>?_,λz=>?_⟩
 ·revert a;exact I (((b.only J).gJ z).dq) λa=>a.dq
 ·revert a;exact I (b.none J λm=>z (ao.mp m)) λa=>a.dq
def Bs(c:Pc)(B:D->aD)(f:Fg)(i j:D)(a:aD):Prop:=∀e,An c .block B f i e->if a then e=ae j else Ag c .uy B f [.r .eY .eG] j e
theorem Bs.bL(w:Bs c B f i j b)(h:b=am\/c.K j∈[260,261,262,276,287])(a:An c .block B f i e):e=ae j:=by
 have w:=w e a;induction b with
 |true=>exact w
 |false=>
  rw[bG aC] at w;have h:=((aa J):∀k∈([260,261,262,276,287]:ag aF),k∉cO .uy/\k∉cO .eY) _ (h.resolve_left nofun);refine aM ((w.hF J h.1).eG) λl g d=>?_;revert d;exact I (g.none J h.2) λd=>d.dq
theorem Bs.uK(w:Bs c B f i j ai)(m:c.K j∉[260,261,262,276,287])(z:(c.K j∉[273,258]/\∀r,An c .row B f j r->Fq c xg r)\/(c.K j∈[273,258]/\∀r,An c .eY B f j r->Fq c nV r))(a:An c .block B f i e):Fq c nV e:=by
 have w:=w e a;have g:nV (c.K j)=am:=by
  unfold nV
  cases z:([260,261,262,276,287]:ag aF).contains (c.K j) with
  |false=>rfl
  |true=>exact cq (cg.mp z) m
 rcases z with⟨l,q⟩|⟨n,q⟩
 ·refine(w.oS (S1:=xg) (S:=SS) (λb d=>?_) (aa J) rw_ss ?_ (aa J)).fH λk z=>((aq _ _).mp z).1
  ·exact aM ((d.only J).dY) λh a2 o=>o.oS (q h a2) (aa J)
  ·unfold SS;refine I g ?_;cases z:([273,258]:ag aF).contains (c.K j) with
   |false=>rfl
   |true=>exact cq (cg.mp z) l
 ·refine aM ((w.hF J (((aa J):∀k∈([273,258]:ag aF),k∉cO .uy) _ n)).eG) λb d s=>?_;have q:=q b d;cases s.dq;intro u z;obtain rfl:=si z;induction b with
  |none=>exact g
  |some j=>exact q j J
theorem Bs.row{d:D}(w:Bs c B f i j ai)(q:∀r,An c .row B f j r->r=ae d):(c.K d=59->Bs c B f i (d+1) ai)/\(c.K d≠59->Bs c B f i d ai):=by
 have h:∀r,An c .uy B f j r->Aw c [.r .qw .eG] B f d r:=λr a=>by
  refine aM ((a.only J).dY) λk a2 g=>?_;revert g;exact I (q k a2) λg=>g
 exact⟨λz e a=>(w e a).step λr b=>(uB (h r b)).1 z,λz e a=>(w e a).step λr b=>(uB (h r b)).2 z⟩
theorem Bs.eY{g:D}(w:Bs c B f i j ai)(m:c.K j∈[273,258])(q:∀r,An c .eY B f j r->Aw c [.r .qw .eG] B f g r):(c.K g=59->Bs c B f i (g+1) am)/\(c.K g≠59->Bs c B f i g am):=by
 have l:∀e,An c .block B f i e->∃r,Aw c [.r .qw .eG] B f g r/\e=ae (r.getD j):=λe a=>aM ((Ag.hF (w e a) J (((aa J):∀k∈([273,258]:ag aF),k∉cO .uy) _ m)).eG) λh o n=>aW h (q h o) n.dq;refine⟨λz e a=>?_,λz e a=>?_⟩
 ·refine aM (l e a) λr b d=>?_;revert a;exact I d λa=>I ((uB b).1 z) J
 ·refine aM (l e a) λr b d=>?_;revert a;exact I d λa=>I ((uB b).2 z) J
theorem yV(W:oA c)(Gt:TQ c X g):Gs c X (g+1):=λB f s h Q q hl p1 lv no af=>by
 refine(?_ :P.call am X ((g+20)+1) _ _ _ _)
 have G:s.d<40:=by have:=p1.d;have:=W.d s.i;lia
 have u0:=(q.pz.new (.list [])).push (.bq [.ref h.length,.int (c.ln s),.bool ai])
 refine bQ _ rfl J (pY (.bq (.cons (.eS .nil) (.cons ((q.pz.new (.list [])).ps.line J) (.cons .co .nil)))) lk J (u0.ps.eW (n:=g+20) J (bX J J (ac J)) .nil (Dg (n:=g+19) u0.ps G λh1 z1=>?_)))
 have q1:=u0.to z1
 have aj:=p1.sy
 have R:∀(p:St) (t:H) (k:ag V) (v3:V) (E:av V),Pz c s h [(h.length,.list k)] p t->fZ c B {s with d:=s.d+1} p 0 0 0->(∀e,An c .block B f s.i e->e=some p.i)->cD (Cn X (g+20)) (WM.drop 3) [some (.ref c.P),some (.ref h.length),some (.int (c.ln s)),some v3,E] (rt Q) t:=λp t k v3 E q' o w=>
  q'.ps.eW J (bX J J (ac J)) .nil (Df (d:=s.d) (n:=g+19) q'.ps o.d (fh G) λh2 Z=>cJ (.cls (.cons .co (.cons (.lo J) (.cons (.eS (.cons (.lo J) .nil)) .nil))) (ci (n:=g+18))) (af _ _ _ (((q'.to Z).push _).push _).sp o.MS w))
 refine wC (λn L t=>∃(p:St) (k:ag V) (b:aD) (E:av V),L=[some (.ref c.P),some (.ref h.length),some (.int (c.ln s)),some (.bool b),E]/\n=2*(c.aw.length-p.i)+(if b then 0 else 1)/\Pz c s h [(h.length,.list k)] p t/\fZ c B {s with d:=s.d+1} p 0 0 0/\Y7 k<=p.i+(if b then 1 else 0)/\Bs c B f s.i p.i b) _ (S7 _ ([]) ai ax J J q1 (.refl aj) ⟨(bU _),(λe a=>(a.only J).eM)⟩) λn L t st=>Mk st λp k b E e1 en u o M=>?_;clear st;refine cv M λY T=>?_;clear M
 refine I e1 ?_
 have il:=u.ps.pE
 refine yJ (so ((show Et (Cn X (g+20)) (.l 3) _ t b t from .of J (.lo J) J) _ ?_))
 induction b with
 |true=>
  rewrite[bG (aa J),bG (aa J)]
  exact R p t k _ E u o λe a=>T.bL (.inl J) a
 |false=>
  refine dG (aa J) (uM ((show Et (Cn X (g+20)) (.cj .NotIn (.me (.l 0) 57 []) (.c (.aV 19))) _ t (!([260,261,262,276,287]:ag aF).contains (c.K p.i)) t from .cj (u.ps.kind (n:=g+19) J) .co (.MO (Ds (is:=[260,261,262,276,287]) J))) _ ?_))
  cases hc:([260,261,262,276,287]:ag aF).contains (c.K p.i) with
  |true=>
   rewrite[bG (aa J),bG (aa J)]
   exact R p t k _ E u o λe a=>T.bL (.inr (cg.mp hc)) a
  |false=>
   rewrite[cw (aa J),cw J]
   refine cN (u.ps.eW (n:=g+20) J (bX J J (ac J)) .nil (Gt B f p t _ (I o.lp hl) u.ps (p1.go o (aa J) (aa J) (aa J)) (by refine I o.d (?_ :10*(40-(s.d+1))+9<=g);exact Q6 lv G) (λz=>no λe a=>T.uK (λm=>by rw[cg.mpr m] at hc;cases hc) z a) λr h2 v y Z o2 nd A=>?_))
   have u2:=u.to Z
   refine wW nd λnv l3 p3 ev gv=>?_;clear nd
   have O:=u2.ps.pE
   have hb:([kY,lM].any λa=>y==a)=(y==kY||y==lM):=by
    refine(?_ :(y==kY||(y==lM||ai))=_)
    refine I (Bool.or_false ..) ?_;rfl
   rw[bG aC] at en Y
   have C:∀j,r.i<=j->j<=c.aw.length->2*(c.aw.length-j)+(if[kY,lM].any (λa=>y==a) then 0 else 1)<n/\Y7 k+1<=j+(if[kY,lM].any (λa=>y==a) then 1 else 0):=λj l1 l2=>by
    refine I en (I hb ?_)
    rcases A with⟨A,w⟩|⟨A,mk,w⟩
    ·have:=W.lt il J w
     exact I A (cM aC (cM aC (VB Y l1 l2 this)))
    ·exact I A (dG J (dG J (VA Y l1 o2.le)))
   refine cZ (v:= .bool ([kY,lM].any λa=>y==a)) (.cj (.at (v:= .str y) (.lo J) (uR nv 5 _ ev gv J J)) (.bq (.cons .co (.cons .co .nil))) (.s7 (nK (is:=[kY,lM]) (.inr lk)))) ?_
   have u3:=u2.push (.bq ([kY,lM].map .str))
   have g3:=u3.get (.head _)
   refine ia (.vV (.lo J) (.list g3 (.inl J)) (.cons (.lo J) .nil) (.ii g3 (by exact gC 0xd5889e8090aea08042b8006e8234c0 J u.ps.ok.o0 il Y)) (aa J)) ?_
   have U:=u3.wZ (ys:=k++[v]) (aE _) nofun
   have F:=(o.trans o2).nh (a':=0) (b':=0) (e':=0) (aa J) (aa J) (aa J)
   have l4:(k++[v]).length=Y7 k+1:=by refine I au ?_;rfl
   have S:(c.K r.i=59->Bs c B f s.i (r.i+1) ([kY,lM].any λa=>y==a))/\(c.K r.i≠59->Bs c B f s.i r.i ([kY,lM].any λa=>y==a)):=by
    rcases A with⟨A,w⟩|⟨A,mk,w⟩
    ·exact I hb (I A (T.row w))
    ·exact I hb (I A (T.eY mk w))
   refine mD (U.ps.eW (n:=g+20) J (bX J J (ac J)) (.cons .co .nil) (Be (n:=g+9) U.ps (aa J) (λn1=>⟨_,(C r.i (aE _) O).1,r,_,_,_,rfl,rfl,U,F,by rw[l4];exact(C r.i (aE _) O).2,S.2 n1⟩) λk1 h5 z5=>?_))
   have N:=Pc.lt (I k1 (aa J))
   exact⟨_,(C (r.i+1) (dR _) N).1,c.next r,_,_,_,rfl,rfl,U.to z5,(F.trans (.next F.sy k1)).nh (aa J) (aa J) (aa J),by rw[l4];exact(C (r.i+1) (dR _) N).2,S.1 k1⟩
end
structure GA(c:Pc)(X:Prop)(g:D):Prop where
 rB:Oc c X g
 fU:Gc c X g (An c .fU) SX 1 (-1) 68 [] W0
 iT:Gc c X g (An c .iT) Bo 2 (-1) 67 [] W0
 key:Gk c X g [91] (Aw c [tK 91,oR .fU,tK 93]) SN 2 (-2) 74 [] (WN c)
 fld:∀t,Gk c X g [46,58] (λB f i=>Aw c [tK 285] B f (i+1)) SN 1 (-2) 73 [t] (WF c)
 given:Ga c X g
 table:Gc c X g (An c .table) SN 4 (-2) 76 [] (WN c)
 dQ:Gc c X g (An c .dQ) SI 3 (-1) 77 [] W0
 head:Gc c X g (An c .head) SN 2 (-2) 71 [] (λB s s' h v=>Nr c B s'/\JX c s.i h v/\(c.K s.i=285->s'.i=s.i+1))
 prim:Gp c X g
 iU:Gc c X g (An c .iU) SU 7 (-2) 70 [] W0
 fn:Gn c X g
 wz:Gs c X g
 block:Gw c X g [] (An c .block) nV 1 0 80 [] W0
 gq:Ng c X g
 uy:TQ c X g
 Nq:∀ln,vd ln->Gw c X g [266] (Aw c EP) SN 2 (-1) 83 [.int ln] WK
 Td:∀ln,vd ln->Gw c X g [277] (Aw c [tK 277,oR .fU,tK 259,oR .gq,tK 262]) SN 3 (-1) 84 [.int ln] WK
 Tp:∀ln,vd ln->Gw c X g [272] (Aw c [tK 272,oR .gq,tK 276,oR .fU]) SX 2 (-1) 85 [.int ln] WK
 num:Cp c X g 88 (Aw c zB) (λk=>k==61)
 zg:Cp c X g 89 (Fx c) (λk=>k==44||k==267)
 Nz:∀ln,vd ln->Gw c X g [264] (An c .row) SN 4 (-1) 86 [.int ln] WK
 Ny:∀ln,vd ln->Gw c X g [265] (Aw c zF) SN 2 (-1) 90 [.int ln] WK
 Tt:Co c X g 91 (Aw c EG) SN 2 1
 Ts:Co c X g 92 (zD c) xg 1 (-1)
 ret:Ro c X g
 TI:Rp c X g
section
variable{c:Pc}{X:Prop}{g:D}
theorem oM(W:oA c){B:D->aD}{f:Fg}{m:aF}{s:St}{k:D}(p:i9 c B f m s)(a: -2<=m)(l:10*(40-s.d)+k<=0):bA:=by
 have:=p.d;have:=W.d s.i;exact Q5 a l ‹m<=c.sD s.i-↑s.d› this
theorem WB(W:oA c):GA c X 0 where
 rB:=λa a a a a a a a a a p l=>(oM W p (aa J) l).elim
 fU:=λa a a a a a p l=>(oM W p (aa J) l).elim
 iT:=λa a a a a a p l=>(oM W p (aa J) l).elim
 key:=λa a a a a a a p l=>(oM W p (aa J) l).elim
 fld:=λa a a a a a a a p l=>(oM W p (aa J) l).elim
 given:=λa a a a a a a p l=>(oM W p (aa J) l).elim
 table:=λa a a a a a p l=>(oM W p (aa J) l).elim
 dQ:=λa a a a a a p l=>(oM W p (aa J) l).elim
 head:=λa a a a a a p l=>(oM W p (aa J) l).elim
 prim:=λa a a a a a p l=>(oM W p (aa J) l).elim
 iU:=λa a a a a a p l=>(oM W p (aa J) l).elim
 fn:=λa a a a a a a a a p a l=>(oM W p (aa J) l).elim
 wz:=λB f s h Q a a p l=>(Q5 (i0:=0) (aa J) l (mN 0x35aab001ac8baaae824006cac9 J p.d) (W.d s.i)).elim
 block:=λa a a a a a a a p l=>(oM W p (aa J) l).elim
 gq:=λa a a a a a a p l=>(oM W p (aa J) l).elim
 uy:=λa a a a a a a p l=>(oM W p (aa J) l).elim
 Nq:=λa a a a a a a a a a p l=>(oM W p (aa J) l).elim
 Td:=λa a a a a a a a a a p l=>(oM W p (aa J) l).elim
 Tp:=λa a a a a a a a a a p l=>(oM W p (aa J) l).elim
 num:=λa a a a a a a a a a p a a a l=>(oM W p (aa J) l).elim
 zg:=λa a a a a a a a a a p a a a l=>(oM W p (aa J) l).elim
 Nz:=λa a a a a a a a a a p l=>(oM W p (aa J) l).elim
 Ny:=λa a a a a a a a a a p l=>(oM W p (aa J) l).elim
 Tt:=λa a a a a a a a p a a l=>(oM W p (aa J) l).elim
 Ts:=λa a a a a a a a p a a l=>(oM W p (aa J) l).elim
 ret:=λa a a a a a a a p l=>(oM W p (aa J) l).elim
 TI:=λa a a a a a a a p l=>(oM W p (aa J) l).elim
theorem WA(W:oA c)(G:GA c X g)(e:Gn c X (g+1)):GA c X (g+1) where
 rB:=Ob W G.iU G.rB
 fU:=RK G.rB
 iT:=Of G.fU
 key:=RG G.fU
 fld:=λa=>Ku
 given:=Og G.table G.iT
 table:=Kt G.dQ
 dQ:=Oe W G.fU G.key
 head:=HV G.fU
 prim:=D5 W G.head G.fld G.key G.given
 iU:=HT W G.table G.fn G.prim
 fn:=e
 wz:=yV W G.uy
 block:=Kv G.wz
 gq:=Od G.block
 uy:=AN W G.Nq G.Td G.block G.Nz G.Tp G.Ny G.Tt G.Ts G.ret G.TI
 Nq:=λa l=>Um l G.fU G.block
 Td:=λa l=>Kr l G.fU G.gq
 Tp:=λa l=>HU l G.wz G.fU
 num:=RC W G.fU G.gq
 zg:=RH W G.iT G.gq
 Nz:=λa l=>RJ W l G.num G.zg
 Ny:=λa l=>RI W l G.fn G.fld
 Tt:=RE W G.fn
 Ts:=RD W G.iT
 ret:=λa a a a a a k q p l d b=>RB G.iT k q p l d b
 TI:=λa a a a a a k q p l d b=>RL W G.prim G.iT k q p l d b
theorem ga(W:oA c):∀g,GA c X g
 |0=>WB W
 |1=>WA W (WB W) λa a a s a a a a a p a l=>by
  have:=p.d;have:=W.d s.i;omega
 |g+2=>WA W (ga W (g+1)) (Cs W (HW W) (ga W (g+1)).wz)
end
theorem Ev.BN{C:Cy}{L:bS}{h f e b:H}{o c:E}{x u v:V}(a:Ev C o L h x f)(d:Ev C c L f u e)(g:yr C.K e x .none u v b):Ev C (.hO o ax (ae c)) L h v b:=λQ q=>a _ (d _ (dO v b g q))
noncomputable abbrev n5:ag D:=[61,108,97,119]
section
variable{X:Prop}{n:D}{h:H}
theorem H0:Ru X (n+1) 12 [.bytes n5] h (.bytes n5) h:=λQ k=>by
 refine bQ _ rfl J (cZ .co (oY (λm p g=>∃j:D,p=[some (.bytes n5),some (.int j)]/\g=h/\m+j=4) 4 (bQ 0 J J J) λm p g o=>kh o λj r q d=>?_));clear o;subst r q;have i:∀{t},n6 .Lt (j:aF) (n5.length:D)=some t->Et (Cn X n) (.cj .Lt (.l 1) (.ca (.c (.bi 0)) [.l 0])) [some (.bytes n5),some (.int j)] g t g:=λe=> .cj (.lo J) (.bi (.cons (.lo J) .nil) (.bytes (ac J))) (.int e);have f:∀{a:D},n5[j]? =some a->Ev (Cn X n) (.sub (.l 0) (.l 1)) [some (.bytes n5),some (.int j)] g (.int a) g:=λe=>B4 (.lo J) (.lo J) (ac J) e;match j,d with
 |0,d=>exact dO am _ (.du (i J) (.du (bj (f J) .co J) .uj)) (dG J (cZ (.dy (.lo J) .co (.int (jt J J))) ⟨3,bO 0x3600bc0ca08034 J d,1,rfl,rfl,rfl⟩))
 |1,d=>exact dO am _ (.du (i J) (.du (bj (f J) .co J) .uj)) (dG J (cZ (.dy (.lo J) .co (.int (jt J J))) ⟨2,bO 0x3600ac0ca09034 J d,2,rfl,rfl,rfl⟩))
 |2,d=>exact dO am _ (.du (i J) (.du (bj (f J) .co J) .uj)) (dG J (cZ (.dy (.lo J) .co (.int (jt J J))) ⟨1,bO 0x36009c0ca0a034 J d,3,rfl,rfl,rfl⟩))
 |3,d=>exact dO am _ (.du (i J) (.du (bj (f J) .co J) .uj)) (dG J (cZ (.dy (.lo J) .co (.int (jt J J))) ⟨0,bO 0x36008c0ca0b034 J d,4,rfl,rfl,rfl⟩))
 |4,d=>exact dO ai _ (.hZ (i J)) (cM aC (cJ (.BN (v:= .bytes n5) (.lo J) (.lo J) (.bytes (b:=n5) (l:=ax) (u:=some 4) J J (ac J))) k))
 |j+5,d=>exact cq d (dw 0x3a328a0d040 J)
theorem H7:Ru X (n+2) 14 [.bytes n5,.int 80] h (.bytes [108,97,119]) h:=λQ k=>
 (bQ _ rfl J (cZ (.fn (.cons (.lo J) .nil) H0) (bT (.cj (t:=am) (.BN (v:= .bytes [61]) (.lo J) .co (.bytes (b:=n5) (l:=ax) (u:=ae 1) J J (ac J))) .co (.bytes (x:=[61]) (y:=[61]))) (cJ (.hO (v:= .bytes [108,97,119]) (.lo J) .co (.lo J) (.bytes (b:=n5) (l:=ae 1) (u:=ae 80) J J (ac J))) k))))
theorem IK:∀k<21,xh ((kQ 0)[k]?.getD .none) (fk.take k)/\uN ((kQ 0)[k]?.getD .none) (.int (257+(k:aF))) (fk.take k)=fk.take (k+1):=by
 unfold xh;exact aa J
theorem Lw{Q:P1}(k:Q (.ref h.length) (h++[.dict fk])):∀(j i:D) (f d:av V),i+j=21->Ah (Cn X n).K (.aV 0) (kQ 0) (λk v L=>cD (Cn X n) [.as (.su (.l 0) (.l 2)) (.dy .Add (.c (.int 257)) (.l 1))] (cx (cx L 1 (.int k)) 2 v)) (sq (Cn X n) (WT.drop 2) (rt Q)) ((kQ 0).drop i) i [ae (.ref h.length),f,d] (h++[.dict (fk.take i)]):=by
 intro b
 induction b with
 |zero=>
  intro i f d e
  have e:=e
  subst e
  exact⟨rfl,cJ (.lo J) k⟩
 |succ j p=>
  intro i f d e
  have g:i<(kQ 0).length:=by refine(?_ :i<21);exact dw 0xd9d240c1d268a09040 J e
  refine cv (IK i (dw 0xd9d240c1d268a09040 J e)) λo m=>?_
  rw[aI g] at o m
  refine I (dS g) (⟨rfl,MA (.dy .co (.lo J) (.int (jt (a:=257) J (dU (dw 0x356227a0240c1d268a09040 J e))))) (.lo J) (.lo J) (.dict lk o ?_) ?_⟩)
  ·exact I bE (az (fP _ _) (dw 0x358262c0c1d268a09040 J e))
  ·refine I vv ?_
   have:=p (i+1) (ae (.int i)) (ae (kQ 0)[i]) (dw 0x37749a01a09030749a28241034 J e)
   rw[<-m] at this
   exact this
theorem HY:Ru X (n+1) 21 [] h (.ref h.length) (h++[.dict fk]):=λQ k=>(bQ _ rfl J (cZ (λQ q=>q) ((Ev.co (v:= .aV 0)) _ ⟨kQ 0,Lw k 21 0 ax ax J⟩)))
noncomputable def Dm(t:ag D)(b:D):Lx:=⟨0,eP t 0,1,1,b,.ref (b+1),.none⟩
theorem EH{t:ag D}{f:D}(lt:t.length<=10000):Nw X (n+4) 4 [.bytes t,.bytes n5,.ref f] h ((h++[.inst 4 (jv ⟨t,h.length,f,h.length+1⟩ (Dm t (h.length+2)))])++[.dict fk,.f7 [],.inst 3 [(12,.int 287),(10,.none)]]):=λQ q=>by
 have d:∀{a:O},(h++[a]).length=h.length+1:=λ{a}=>I au J;have j:∀{a b:O},((h++[a])++[b]).length=h.length+2:=λ{a b}=>I au (I d J);have i:∀{a b c:O},((h++[a])++[b,c]).length=h.length+3:=λ{a b c}=>I au (I d J);have g:∀{e:H},Ev (Cn X (n+2)) (.jP (.cj .Gt (.ca (.c (.bi 0)) [.l 1]) (.c (.int 0))) (.sub (.l 1) (.c (.int 0))) (.c (.int (-1)))) [some (.ref h.length),some (.bytes t),some (.bytes n5),some (.ref f)] e (.int (eP t 0)) e:=λ{e}=>by
  induction t with
  |nil=>exact .jC (bj (.bi (.cons (.lo J) .nil) (.bytes (ac J))) .co J) .co
  |cons a r=>exact .TC (bj (.bi (.cons (.lo J) .nil) (.bytes (az lt (ac J)))) .co (aL some (aR (I bv (bO 0x36ae8240ac8 J))))) (B4 (k:=0) (.lo J) .co lt J)
 refine dO 24 ([]) J (bQ _ rfl J (cL (.lo J) (.lo J) (eV J (bU _)) (cL (.lo J) (.lo J) (eV J (by refine(?_ :1<=900);exact ac J)) (cL (.fn (.cons (.lo J) (.cons .co .nil)) H7) (.lo J) (eV J (by refine(?_ :2<=900);exact ac J)) (cL (.lo J) (.lo J) (eV J (by refine(?_ :3<=900);exact ac J)) (cL (.fn .nil HY) (.lo J) (gg (r:=[.dict fk]) J (by refine(?_ :4<=900);exact ac J)) (I d (cL .co (.lo J) (gg (r:=[.dict fk]) J (by refine(?_ :5<=900);exact ac J)) (cL g (.lo J) (gg (r:=[.dict fk]) J (by refine(?_ :6<=900);exact ac J)) (cL .co (.lo J) (gg (r:=[.dict fk]) J (by refine(?_ :7<=900);exact ac J)) (cL .co (.lo J) (gg (r:=[.dict fk]) J (by refine(?_ :8<=900);exact ac J)) (cL (.ty .nil (.new J)) (.lo J) (I (a7 ..) (gg (r:=[.dict fk,.f7 []]) J (by refine(?_ :9<=900);exact ac J))) ?_))))))))))));refine I j (cL (.cls (.cons .co (.cons .co .nil)) sO) (.lo J) (I (a7 ..) (gg (r:=[.dict fk,.f7 [],.inst 3 [(12,.int 287),(10,.none)]]) J (by refine(?_ :10<=900);exact ac J))) (cL .co (.lo J) (gg (r:=[.dict fk,.f7 [],.inst 3 [(12,.int 287),(10,.none)]]) J (by refine(?_ :11<=900);exact ac J)) ⟨rfl,?_⟩));exact I i q
end
noncomputable abbrev zH:ag D:=[102,117,110,99,116,105,111,110]
section
variable{X:Prop}{n:D}{h:H}{Q:P1}
noncomputable abbrev B0(t:ag D)(a k:D):ag O:=[.inst 4 (jv ⟨t,k+1,a,k+2⟩ (Dm t (k+3))),.dict fk,.f7 [],.inst 3 [(12,.int 287),(10,.none)]]
noncomputable abbrev sW(b k:D)(a:V):ag (D×V):=[(15,.ref b),(53,.ref (k+1)),(54,a),(55,.int (0:D)),(56,.int (0:D))]
theorem Cx{t:ag D}{b:D}(lt:t.length<=10000):Nw X (n+6) 9 [.bytes t,.bytes n5,.ref b] h ((h++[.inst 9 (sW b h.length .none)])++B0 t b h.length):=λQ q=>by
 have d:∀{a:O},(h++[a]).length=h.length+1:=λ{a}=>I au J;refine dO 49 ([]) J (bQ _ rfl J (cL (.lo J) (.lo J) (eV J (bU _)) (cL (.cls (.cons (.lo J) (.cons (.lo J) (.cons (.lo J) .nil))) (EH (n:=n) lt)) (.lo J) (I (a7 ..) (gg (c:=9) (fs:=[(15,.ref b)]) J (by refine(?_ :1<=900);exact ac J))) ?_)));exact I d (cL .co (.lo J) (gg J (by refine(?_ :2<=900);exact ac J)) (cL .co (.lo J) (gg J (by refine(?_ :3<=900);exact ac J)) (cL .co (.lo J) (gg J (by refine(?_ :4<=900);exact ac J)) ⟨rfl,q⟩)))
theorem CI{aw:ag iQ}(w:oW aw){c:Lc}(ct:c.t=cm aw){b:D}(g:h[c.X]? =ae (.inst 4 (jv c (Dm c.t b))))(lm:h[c.LM]? =ae (.inst 0 y8))(kd:h[c.KD]? =ae (.dict fk))
  (k:∀v h' m x,(∀(n:D) o,n≠c.X->h[n]? =ae o->h'[n]? =ae o)->h.length<=Y7 h'->h'[c.X]? =ae (.inst 4 (jv c x))->x={Dm c.t b with jF:=h.length,pos:=hG aw 1,cA:=eP (cm aw) (hG aw 1),line:=oO aw 1,cur:= .ref m}->h'[m]? =ae (.inst 3 [(12,.int (tk aw 0).1),(10,(tk aw 0).2)])->(∃b,h'[h.length]? =ae (.f7 b)/\b.length<=10000)->Q v h'):P.call am X (n+10) (.fn 25) [.ref c.X] Q h:=by
 have g1:(h.set c.X (.inst 4 (jv c (Dm c.t b))))[c.X]? =ae (.inst 4 (jv c (Dm c.t b))):=fF g;have k1:∀(n:D) o,n≠c.X->h[n]? =ae o->(h.set c.X (.inst 4 (jv c (Dm c.t b))))[n]? =ae o:=λn o ne g=>cB g ne.symm;have pt:∀{h:H} {x x':Lx} {a:D} {v:V},h[c.X]? =ae (.inst 4 (jv c x))->P.fld 4 a=am->setField a v (jv c x)=jv c x'->qh P.fld h (.ref c.X) a v (h.set c.X (.inst 4 (jv c x'))):=λg f e=>(tU c.X 4 _ rfl g f (by refine(?_ :12<=900);exact ac J) (I e J));have hl:(h.set c.X (.inst 4 (jv c (Dm c.t b)))).length=h.length:=bC;refine bQ _ rfl J (cL (.at (.lo J) (.i g J J)) (.lo J) (pt (x':=Dm c.t b) g J J) (bm (my (v:= .none) (.at (.lo J) (.i g1 J J)) J) (s9 (.lo J) (.i g1 J J) .nil (xJ (n:=n) (k:=0) w ct g1 (k1 _ _ (λe=>by rw[e,g] at lm;cases lm) lm) (k1 _ _ (λe=>by rw[e,g] at kd;cases kd) kd) J (by refine(?_ :eP c.t 0=_);exact I ct J) J _ λm h2 ⟨gm,lm',bb,lh⟩=>?_) (ac J))));have gl:=lh.gO;rw[hl] at gl lm';have mX:m≠c.X:=λe=>by have:=j4 g;exact gC 0xeef002c0206e040 J lm' e this
 refine Ev.lo (i:=0) J _ (aW _ (pt (x':={Dm c.t b with jF:=h.length,pos:=hG aw 1,cA:=eP (cm aw) (hG aw 1),line:=oO aw 1,cur:= .ref m}) gl J J) (cJ (.at (.lo J) (.i (fF gl) J J)) (k _ _ m _ (λn o ne g=>cB (lh.fr n o (k1 n o ne g) ne) ne.symm) ?_ (fF gl) J (cB gm mX.symm) (aW bb (cB ?_ (cr (j4 g))) lh.len))))
 ·exact I bC (az (lS hl.symm) lh.sz)
 ·have:=lh.jF;rw[hl] at this;exact this
noncomputable def pc(a:ag iQ)(b k:D):Pc:=⟨a,k,k+1,b,k+2,k+5⟩
theorem Er{d:ag iQ}(w:oW d){l:D}(W:oA (pc d l h.length))(lm:h[l]? =ae (.inst 0 y8))(V:(∀p,An (pc d l h.length) .block (bh d) ⟨ai,true⟩ 0 p->∀j,p=ae j->(pc d l h.length).K j≠287)->X)
  (E:∀v h' j,(∀p,An (pc d l h.length) .block (bh d) ⟨ai,true⟩ 0 p->p=ae j)->(pc d l h.length).K j=287->eD h' v zH->Q v h'):P.call true X (n+430) (.fn 97) [.bytes (cm d),.bytes n5,.ref l] Q h:=by
 have s:∀(j:D) (o:O),(O.inst 9 (sW l h.length .none)::B0 (cm d) l h.length)[j]? =ae o->((h++[O.inst 9 (sW l h.length .none)])++B0 (cm d) l h.length)[h.length+j]? =ae o:=λj o g=>by
  refine I (a7 ..) (I (cF (cH _ _)) ?_);exact I (cV ..) g
 have lA:((h++[O.inst 9 (sW l h.length .none)])++B0 (cm d) l h.length).length=h.length+5:=by refine I au ?_;refine I au ?_;rfl
 have y:((h++[O.inst 9 (sW l h.length .none)])++B0 (cm d) l h.length)[l]? =ae (.inst 0 y8):=by
  refine I (a7 ..) ?_;refine I (bF (j4 lm)) ?_;exact lm
 have G:=s 0 _ rfl
 have u:=j4 lm
 refine bQ _ rfl J (fQ (s9 (.cls (.cons (.lo J) (.cons (.lo J) (.cons (.lo J) .nil))) (Cx (n:=n+423) (az w.size (ac J)))) (.i G J J) .nil ?_ (ac J)))
 generalize(h++[O.inst 9 (sW l h.length .none)])++B0 (cm d) l h.length=hA at*
 have N:=s 1 _ rfl
 refine bQ _ rfl J (mD (s9 (.at (.lo J) (.i G J J)) (.i N J J) .nil (CI (n:=n+418) (c:=(pc d l h.length).lc) w J N y (s 2 _ rfl) λv f m x Y R H ex L M=>?_) (ac J)))
 have U:=Y _ _ (show h.length≠h.length+1 by exact bO 0xea8240034 J) G
 have r:h.length+5<=(Y7 f):=by rw[lA] at R;exact R
 refine cL (.cls (.cons .co (.cons .co .nil)) (xH (n:=n+426))) (.lo J) (.i (bH (z:= .inst 6 [(47,.none),(19,.int 0),(48,.ref (Y7 f+1)),(49,.int (0:D)),(50,.ref (Y7 f+2)),(51,.bool ai),(52,.bool ai)]) U|>λg=>by refine I (bF (j4 g)) ?_;exact g) J (by refine(?_ :5<=900);exact ac J)) ?_
 have F:∀(j:D) (o:O),([O.inst 6 [(47,.none),(19,.int 0),(48,.ref (Y7 f+1)),(49,.int (0:D)),(50,.ref (Y7 f+2)),(51,.bool ai),(52,.bool ai)],.list [],.list []]:ag O)[j]? =ae o->(((f++[O.inst 6 [(47,.none),(19,.int 0),(48,.ref (Y7 f+1)),(49,.int (0:D)),(50,.ref (Y7 f+2)),(51,.bool ai),(52,.bool ai)]])++[O.list [],.list []]).set h.length (.inst 9 (setField 54 (.ref (Y7 f)) (sW l h.length .none))))[Y7 f+j]? =ae o:=λj o g=>by
  refine I (fC (gC 0x3aa02040d2e068340 J r)) ?_;refine I (a7 ..) (I (cF (cH _ _)) ?_);exact I (cV ..) g
 have k3:∀(i:D) o,i≠h.length->f[i]? =ae o->(((f++[O.inst 6 [(47,.none),(19,.int 0),(48,.ref (Y7 f+1)),(49,.int (0:D)),(50,.ref (Y7 f+2)),(51,.bool ai),(52,.bool ai)]])++[O.list [],.list []]).set h.length (.inst 9 (setField 54 (.ref (Y7 f)) (sW l h.length .none))))[i]? =ae o:=λi o t g=>cB (by refine I (a7 ..) (I (bF (j4 g)) ?_);exact g) t.symm
 have T:(((f++[O.inst 6 [(47,.none),(19,.int 0),(48,.ref (Y7 f+1)),(49,.int (0:D)),(50,.ref (Y7 f+2)),(51,.bool ai),(52,.bool ai)]])++[O.list [],.list []]).set h.length (.inst 9 (setField 54 (.ref (Y7 f)) (sW l h.length .none))))[h.length]? =ae (.inst 9 (sW l h.length (.ref (Y7 f)))):=fN (I au (I au (ri 0xda80e808102e068340 J r)))
 generalize((f++[O.inst 6 [(47,.none),(19,.int 0),(48,.ref (Y7 f+1)),(49,.int (0:D)),(50,.ref (Y7 f+2)),(51,.bool ai),(52,.bool ai)]])++[O.list [],.list []]).set h.length (.inst 9 (setField 54 (.ref (Y7 f)) (sW l h.length .none)))=h3 at*
 have S:=F 0 _ rfl
 refine cL .co (.at (.lo J) (.i T J J)) (.i S J (by refine(?_ :7<=900);exact ac J)) ?_
 have B:∀{z:O} (i:D) o,i≠Y7 f->h3[i]? =ae o->(h3.set (Y7 f) z)[i]? =ae o:=λi o t g=>cB g t.symm
 have q:Pa (pc d l h.length) ⟨0,ai,1,0,0,⟨Y7 f,Y7 f+1,Y7 f+2,0,0,true,0⟩,[]⟩ (h3.set (Y7 f) (.inst 6 (Eh .none ⟨Y7 f,Y7 f+1,Y7 f+2,0,0,true,0⟩ ai))):=by
  refine aM M λ_ _ _=>?_;rename_i b M lb
  have A:∀{z:O} (i:D) o,i≠h.length->f[i]? =ae o->(h3.set (Y7 f) z)[i]? =ae o:=λi o t g=>B i o (cr (j4 g)) (k3 i o t g)
  have Z:∀{z:O} (i:D) o,i≠h.length->i≠h.length+1->hA[i]? =ae o->(h3.set (Y7 f) z)[i]? =ae o:=λi o n1 n2 g=>A i o n1 (Y i o n2 g)
  refine⟨w,B _ _ (by refine(?_ :h.length≠Y7 f);exact dw 0x3a040d2e068340 J r) T,Z _ _ (by refine(?_ :l≠h.length);exact dw 0x3a040d2f040 J u) (by refine(?_ :l≠h.length+1);exact dw 0x3aa09040d2f040 J u) y,Z _ _ (by refine(?_ :h.length+2≠h.length);exact bO 0x3a028280 J) (by refine(?_ :h.length+2≠h.length+1);exact bO 0x3aa09028280 J) (s 2 _ rfl),⟨x,?_⟩,(bX ⟨⟨ai,fF S⟩,(bQ ([]) (B _ _ (by refine(?_ :(Y7 f)+1≠_);exact bO 0x3a028240 J) (F 1 _ rfl)) J nofun),bU _,(bQ ([]) (B _ _ (by refine(?_ :(Y7 f)+2≠_);exact bO 0x3a028280 J) (F 2 _ rfl)) .nil nofun),by refine(?_ :(Y7 f)<Y7 f+1);exact bO 0x36a09000 J,by refine(?_ :(Y7 f)<Y7 f+2);exact bO 0x36a0a000 J,by refine(?_ :(Y7 f)+1≠Y7 f+2);exact bO 0xea8280a09034 J⟩ r trivial),bU _,(bX (by refine(?_ :h.length<h.length+5);exact bO 0x36a0d000 J) (by refine(?_ :h.length+1<h.length+5);exact bO 0x36a0d028240 J) (by refine(?_ :h.length≠h.length+1);exact bO 0xea8240034 J)),bU _,bU _⟩
  revert H;refine I ex ?_;intro H
  refine⟨A _ _ (by refine(?_ :h.length+1≠h.length);exact bO 0x3a028240 J) H,rfl,rfl,rfl,rfl,(aW m J ?_),rfl,(aW b ?_ lb)⟩
  ·refine A _ _ (λe=>?_) L
   rw[e,U] at L
   cases L
  ·refine A _ _ (λe=>?_) M
   lia
 refine cN (q.eW (n:=n+428) J (bX J J (ac J)) .nil ((ga W (n+408)).wz (bh d) ⟨ai,true⟩ _ _ _ q J ⟨⟨nofun,λx_ x_=>rfl⟩,rfl,by refine(?_ :(-1:aF)<=0-1);exact aa J,by refine(?_ :(0:aF)<=0);exact aa J,by refine(?_ :(0:aF)<=0);exact aa J,tS,bU _⟩ (by refine(?_ :10*40+0<=n+408);exact bO 0xd68821240a08a60292 J) (λz=>V λp a j e k=>?_) λs5 h5 v5 C o5 w5=>?_))
 ·have:=z p a j e
  have k:(⟨(pc d l h.length).K,(pc d l h.length).aw.length⟩:Gx).K j=287:=k
  rw[k] at this
  exact ft this
 ·refine mD (C.1.eW (n:=n+428) J (bX J J (ac J)) (.cons .co .nil) (yA (n:=n+420) C.1 J (λt=>V λp a j e k=>?_) λk=>?_))
  ·rw[w5 p a] at e
   revert k;exact sb (si e) λk=>t k
  ·exact fQ (gT .co .co (dM (pP (dP (jb .co (jb (.lo J) (jb ((C.1.push (o:= .list [])).1.line J) (jb .co (dP (ci (n:=n+426) _ (E _ _ s5.i w5 k (.i lk))))))))))))
end
noncomputable abbrev Cf(X:Prop)(n:D):Cy:=⟨P.K,P.fld,P.fI,P.call ai X n,X,ai⟩
noncomputable def gr(aw:ag iQ):Gx:=⟨λi=>(tk aw i).1,Y7 aw⟩
def dA(h:H)(v:V)(aw:ag iQ):Prop:=∃R a,v= .ref R/\h[R]? =ae (.list a)/\Y7 a=Y7 aw/\∀(k:D) r,aw[k]? =ae r->∃t,a[k]? =ae (.ref t)/\h[t]? =ae (.bq [.str r.1,.bool r.2])
def iw(h:H)(v:V)(f:Fg):Prop:=∃F,v= .ref F/\h[F]? =ae (.bq [.bool f.lp,.bool f.va])
noncomputable def rv:av D->V
 |some j=> .int j
 |none=> .int (-1)
noncomputable def BF:ag (ag aF):=[[59],[273],[259],[262],[277],[272],[276],[266],[274],[264],[285],[61],[44],[265],[268],[261],[260],[46],[58],[40],[41],[91],[93],[286],[43,45,278,280],[45,35,270],[284,269],[123],[125],[267]]
noncomputable def DZ:Tm->aD
 | .any a=>BF.contains a
 |_=>am
theorem C8:∀w∈eO,(w==[40])=decide ((fO w).1=40):=aa J
theorem Kj:∀w∈eO,∀b∈BF,((mw w).any λa=>uP (b.headD 0)==a)=decide ((fO w).1∈b):=aa J
theorem C7:∀w∈eO,((mw w).any λa=>[46,46,46]==a)=decide ((fO w).1=279)/\((mw w).any λa=>[98,114,101,97,107]==a)=decide ((fO w).1=258):=aa J
theorem qW:∀a∈BF,(uP (a.headD 0)==[33])=ai/\(uP (a.headD 0)==[98,114,101,97,107])=ai/\(uP (a.headD 0)==[46,46,46])=ai/\(uP (a.headD 0)==[110,101,97,114])=ai/\287∉a:=aa J
section
variable{X:Prop}{n:D}{h d:H}{Q:P1}{aw:ag iQ}{v fl:V}{f:Fg}{w:ag D}{i:D}
theorem dA.kp(q:dA h v aw)(k:Kp h d):dA d v aw:=uS q λR c e g l z=>(tV R c e (k _ _ g) l (λi r y=>aM (z i r y) λt a b=>(aW t a (k _ _ b))))
theorem iw.kp(q:iw h v f)(k:Kp h d):iw d v f:=aM q λF e g=>(aW F e (k _ _ g))
theorem De(k:∀d m,Kp h d->d[m]? =ae (.list ((mw w).map .str))->Q (.ref m) d):P.call ai X (n+1) (.fn 103) [.str w] Q h:=by
 refine bQ _ rfl J ?_;have it:∀{es:ag E} {is:ag (ag D)} {h:H},mC (Cf X n) es [ae (.str w)] h (is.map .str) h->Et (Cf X n) (.cj .In (.l 0) (.bq es)) [ae (.str w)] h (is.any λa=>w==a) (h++[.bq (is.map .str)]):=λev=> .cj (.lo J) (.bq ev) (.s7 (nK (.inr lk)));have eq:∀{h:H} {a:ag D},Et (Cf X n) (.cj .Eq (.l 0) (.c (.str a))) [ae (.str w)] h (w==a) h:= .cj (.lo J) .co .str;have re:∀{h1:H} {es:ag E} {is:ag (ag D)} {R:PS},Kp h h1->mC (Cf X n) es [ae (.str w)] h1 (is.map .str) h1->mw w=is->(∀v d,Q v d->R (.ret v) [ae (.str w)] d)->(wE (Cf X n) (.eS es)).1 [ae (.str w)] (λv=>R (.ret v) [ae (.str w)]) h1:=λkp ev e hR=>Ev.eS ev _ (hR _ _ (k _ _ (kp.trans .push) (by exact I e lk)));refine m8 (it (is:=[[97],[98],[99],[102],[103],[104],[105],[106]]) (.cons .co (.cons .co (.cons .co (.cons .co (.cons .co (.cons .co (.cons .co (.cons .co .nil))))))))) (λh1=>re (is:=[[110,97,109,101]]) .push (.cons .co .nil) (cw h1) λx_ x_ z=>z) λh1=>m8 (it (is:=[[49],[110,105,108]]) (.cons .co (.cons .co .nil))) (λh2=>re (is:=[[112,108,97,105,110]]) (Kp.push.trans .push) (.cons .co .nil) ((bG (by exact I h1 (aa J))).trans (cw h2)) λx_ x_ z=>z) λh2=>m8 (it (is:=[[43],[46,46],[61,61]]) (.cons .co (.cons .co (.cons .co .nil)))) (λh3=>re (is:=[[116,119,111]]) ((Kp.push.trans .push).trans .push) (.cons .co .nil) ((bG (by exact I h1 (aa J))).trans ((bG (by exact I h2 (aa J))).trans (cw h3))) λx_ x_ z=>z) λh3=>m8 (it (is:=[[110,111,116],[35]]) (.cons .co (.cons .co .nil))) (λh4=>re (is:=[[111,110,101]]) (((Kp.push.trans .push).trans .push).trans .push) (.cons .co .nil) ((bG (by exact I h1 (aa J))).trans ((bG (by exact I h2 (aa J))).trans ((bG (by exact I h3 (aa J))).trans (cw h4)))) λx_ x_ z=>z) λh4=>?_;have b4:mw w=_:=(bG (by exact I h1 (aa J))).trans ((bG (by exact I h2 (aa J))).trans ((bG (by exact I h3 (aa J))).trans (bG (by exact I h4 (aa J)))));have kp4:=((Kp.push (h:=h) (o:= .bq (([[97],[98],[99],[102],[103],[104],[105],[106]]:ag (ag D)).map .str))).trans (.push (o:= .bq (([[49],[110,105,108]]:ag (ag D)).map .str)))).trans ((Kp.push (o:= .bq (([[43],[46,46],[61,61]]:ag (ag D)).map .str))).trans (.push (o:= .bq (([[110,111,116],[35]]:ag (ag D)).map .str))));refine fQ (eq _ ?_);cases h5:w==[45] with
 |true=>
  exact dG J (re (R:=rt Q) (is:=[[116,119,111],[111,110,101]]) kp4 (.cons .co (.cons .co .nil)) (b4.trans (I h5 (cw J))) λx_ x_ z=>z)
 |false=>
  refine cM aC (eq _ ?_);cases h6:w==[39,115,39] with
  |true=>
   exact dG J (re (R:=rt Q) (is:=[[116,101,120,116]]) kp4 (.cons .co .nil) (b4.trans (I h5 (I h6 J))) λx_ x_ z=>z)
  |false=>
   exact cM aC (re (R:=rt Q) (is:=[w]) kp4 (.cons (.lo J) .nil) (b4.trans (I h5 (I h6 J))) λx_ x_ z=>z)
end
section
variable{X:Prop}{n:D}{h p:H}{Q:P1}{aw:ag iQ}{v fl:V}{f:Fg}{w:ag D}{i:D}{L:bS}{C:Cy}
theorem dA.len(q:dA h v aw)(l:(Y7 aw)<=3000){e:E}(a:Ev C e L h v h):Ev C (.ca (.c (.bi 0)) [e]) L h (.int (Y7 aw)) h:=by
 revert a;refine hV v q λR f b=>λa=>?_;refine i7 b λg d z=>?_;exact I (aQ d) (.bi (.cons a .nil) (nD.list g (I d (az l (ac J)))))
theorem dA.dQ(q:dA h v aw)(l:(Y7 aw)<=3000){r:iQ}(k:aw[i]? =ae r){e d:E}(a:Ev C e L h v h)(b:Ev C d L h (.int i) h):∃t,Ev C (.sub e d) L h (.ref t) h/\h[t]? =ae (.bq [.str r.1,.bool r.2]):=by
 revert a;refine hV v q λR n c=>λa=>?_;refine i7 c λg j z=>?_;exact aM (z i r k) λt f m=>aW t (.sub a b (.list g (fJ (zC f) (I j (az l (ac J)))) f)) m
theorem iw.at(q:iw h v f){j:D}{b:aD}(e:[V.bool f.lp,.bool f.va][j]? =ae (.bool b)){o:E}(a:Ev C o L h v h):Ev C (.sub o (.c (.int j))) L h (.bool b) h:=by
 revert a;refine iu v q λF g=>λa=>?_;exact .sub a .co (.bq g (fJ (zC e) (by refine(?_ :2<=dW);exact ac J)) e)
theorem Et.SH{C:Cy}{e:E}{L:bS}{h b:H}{t:aD}(a:Et C e L h t b):Et C (.du [e]) L h t b:=λQ q=>a _ (match t,q with
 |true,q=>q
 |false,q=>q)
theorem Et.QZ{C:Cy}{e:E}{L:bS}{h b:H}{t:aD}(a:Et C e L h t b):Et C (.jr [e]) L h t b:=λQ q=>a _ (match t,q with
 |true,q=>q
 |false,q=>q)
theorem Et.Cg{C:Cy}{e d:E}{L:bS}{h:H}{t u:aD}(a:Et C e L h t h)(b:Et C d L h u h):Et C (.du [e,d]) L h (t&&u) h:=match t,a with
 |true,a=> .du a (.SH b)
 |false,a=> .hZ a
theorem Et.QY{C:Cy}{e:E}{c:ag E}{L:bS}{h:H}{t u:aD}(a:Et C e L h t h)(b:Et C (.jr c) L h u h):Et C (.jr (e::c)) L h (t||u) h:=match t,a with
 |true,a=> .NE a
 |false,a=> .jr a b
noncomputable abbrev tL(v:V)(s:ag D)(i:D)(fl:V)(b a:av V):bS:=[some v,some (.str s),some (.int i),some fl,b,a]
theorem kX{h:H}{a x:ag D}{j:D}{t:aD}(g:L[j]? =ae (ae (.str x)))(e:(x==a)=t):Et C (.cj .Eq (.l j) (.c (.str a))) L h t h:=e▸.cj (.lo g) .co .str
theorem rT{r:iQ}(a:aw[i]? =ae r):(gr aw).K i=(fO r.1).1:=by
 refine(?_ :(tk aw i).1=_);unfold tk;exact I a J
theorem Ld{x:Tm}(ok:DZ x=am)(q:dA h v aw)(qf:iw h fl f)(iK:∀r∈aw,r.1∈eO)(l:(Y7 aw)<=3000)(il:i<=3000)(k:∀p,Kp h p->Q (rv (ux (gr aw) (bh aw) f x i)) p):P.call ai X (n+2) (.fn 104) [v,.str (qI x),.int i,fl] Q h:=by
 refine bQ _ rfl J ?_
 have lt:∀{h:H} {s:ag D} {o4 o5:av V} {op:CmpOp} {t:aD},dA h v aw->n6 op (i:aF) (Y7 aw)=ae t->Et (Cf X (n+1)) (.cj op (.l 2) (.ca (.c (.bi 0)) [.l 0])) (tL v s i fl o4 o5) h t h:=λq e=> .cj (.lo J) (q.len l (.lo J)) (.int e)
 have up:∀{h:H} {s:ag D} {o4 o5:av V},Ev (Cf X (n+1)) (.dy .Add (.l 2) (.c (.int 1))) (tL v s i fl o4 o5) h (.int ((i+1:D):aF)) h:= .dy (.lo J) .co (.int (jt (dU (bO 0xd5889e80902e8234c0 J il)) J))
 have dn:∀{h:H} {L:bS},Ev (Cf X (n+1)) (.neg (.c (.int 1))) L h (.int (-1)) h:= .neg .co
 have AE:(Y7 aw)<=i->(gr aw).K i=287:=λz=>by
  refine(?_ :(tk aw i).1=_)
  unfold tk
  refine I (dF z) ?_;rfl
 by_cases nx:x= .jZ
 ·revert k;refine I nx λk=>bT (kX (x:=[33]) J J) (fQ ?_)
  by_cases z:i<(Y7 aw)
  ·obtain⟨r,hr⟩:∃r,aw[i]? =ae r:=⟨_,aI z⟩
   refine aM (q.dQ (C:=Cf X (n+1)) (L:=tL v [33] i fl ax ax) (e:= .l 0) (d:= .l 2) l hr (.lo J) (.lo J)) λt e1 g1=>?_
   have kr:=rT hr
   refine Et.Cg (lt (op:= .Lt) q (aL ae (aR (f8.mpr z)))) (.cj (.sub e1 .co (.bq (k:=0) g1 (fJ (by refine(?_ :0<2);exact ac J) (by refine(?_ :2<=dW);exact ac J)) J)) .co .str) _ (I (C8 _ (iK r (bI hr))) (I (J9 ..) ?_))
   change∀p,Kp h p->Q (rv (if(gr aw).K i=40 then ax else ae i)) p at k
   rw[kr] at k
   by_cases y:(fO r.1).1=40
   ·refine I (aR y) (dG J ?_)
    rw[cw y] at k
    exact dn _ (k h .refl)
   ·refine I (aO y) (cM aC ?_)
    rw[bG y] at k
    exact Ev.lo J _ (k h .refl)
  ·refine Et.hZ (lt (op:= .Lt) q (aL ae (aO λy=>z (f8.mp y)))) _ (cM aC ?_)
   change∀p,Kp h p->Q (rv (if(gr aw).K i=40 then ax else ae i)) p at k
   rw[bG (by exact I (AE (fB z)) (aa J))] at k
   exact Ev.lo J _ (k h .refl)
 ·have n33:(qI x==[33])=ai:=by
   induction x with
   |jZ=>exact cq J nx
   |any ks=>exact(qW ks (gI.mp ok)).1
   |_=>rfl
  refine bm (kX J n33) ?_
  have ge:∀{t:aD},n6 .GtE (i:aF) (Y7 aw)=ae t->Et (Cf X (n+1)) (.cj .GtE (.l 2) (.ca (.c (.bi 0)) [.l 0])) (tL v (qI x) i fl ax ax) h t h:=λe=>lt (op:= .GtE) q e
  by_cases z:i<(Y7 aw)
  ·obtain⟨r,hr⟩:∃r,aw[i]? =ae r:=⟨_,aI z⟩
   refine aM (q.dQ (C:=Cf X (n+1)) (L:=tL v (qI x) i fl ax ax) (e:= .l 0) (d:= .l 2) l hr (.lo J) (.lo J)) λt e1 g1=>?_
   have vr:=iK r (bI hr)
   have kr:=rT hr
   have bb:bh aw i=r.2:=by unfold bh;refine I hr ?_;rfl
   have t0:=ge (t:=ai) (aL ae (aO λy=>kF _ (cQ z (lU.mp y))))
   have tb:Et (Cf X (n+1)) (.jr [.cj .GtE (.l 2) (.ca (.c (.bi 0)) [.l 0]),.du [.cj .Eq (.l 1) (.c (.str [98,114,101,97,107])),.lu (.sub (.l 3) (.c (.int (0:D))))],.du [.cj .Eq (.l 1) (.c (.str [46,46,46])),.lu (.sub (.l 3) (.c (.int (1:D))))]]) (tL v (qI x) i fl ax ax) h (((qI x==[98,114,101,97,107])&& !f.lp)||((qI x==[46,46,46])&& !f.va)) h:= .jr t0 (.QY (.Cg (kX J J) (.not (.of J ((λg=>qf.at J (.lo g)) J) J))) (.QZ (.Cg (kX J J) (.not (.of J ((λg=>qf.at J (.lo g)) J) J)))))
   by_cases bad:((qI x==[98,114,101,97,107])&& !f.lp||(qI x==[46,46,46])&& !f.va)=am
   ·rw[bad] at tb
    refine bT tb (cJ dn ?_)
    have e:ux (gr aw) (bh aw) f x i=ax:=by
     induction x with
     |jZ=>exact cq J nx
     |any ks=>
      have u:=qW ks (gI.mp ok)
      rw[show qI (.any ks)=uP (ks.headD 0) from J,u.2.1,u.2.2.1] at bad
      exact ft bad
     |io=>exact bG λy=>by rw[y.2] at bad;exact ft bad
     |brk=>exact bG λy=>by rw[y.2] at bad;exact ft bad
     |oZ=>exact ft bad
    rw[e] at k
    exact k h .refl
   ·rw[Bool.eq_false_iff.mpr bad] at tb
    refine bm tb (pY e1 g1 J ?_)
    by_cases ne:x= .oZ
    ·revert k;refine I ne λk=>bT (kX (x:=[110,101,97,114]) J J) (fQ (Et.Cg (kX (x:=r.1) J J) (.not (.of (t:=r.2) J (.lo J) J)) _ (I (C8 _ vr) ?_)))
     change∀p,Kp h p->Q (rv (if(gr aw).K i=40/\bh aw i=ai then ae (i+1) else ax)) p at k
     rw[kr,bb] at k
     by_cases y:(fO r.1).1=40/\r.2=ai
     ·rw[cw y] at k
      exact I (aR y.1) (I y.2 (dG (by rfl) (up _ (k h .refl))))
     ·rw[bG y] at k
      exact cM (λw=>y (by
       rw[aq,bc] at w
       exact⟨aa w.1,w.2⟩)) (dn _ (k h .refl))
    ·have n4:(qI x==[110,101,97,114])=ai:=by
      induction x with
      |jZ=>rfl
      |any ks=>exact(qW ks (gI.mp ok)).2.2.2.1
      |oZ=>exact cq J ne
      |_=>rfl
     refine bm (kX J n4) (fQ ?_)
     have bL:∀p,Kp h p->Q (rv (if((mw r.1).any λa=>qI x==a)=am then ae (i+1) else ax)) p:=by
      have e:ux (gr aw) (bh aw) f x i=(if((mw r.1).any λa=>qI x==a)=am then ae (i+1) else ax):=by
       induction x with
       |jZ=>exact cq J nx
       |any ks=>
        refine(?_ :(if(gr aw).K i∈ks then ae (i+1) else ax)=_)
        refine I (show qI (.any ks)=uP (ks.headD 0) from J) (I (Kj _ vr ks (gI.mp ok)) (I kr ?_))
        by_cases y:(fO r.1).1∈ks
        ·exact dG y (dG (aR y) J)
        ·exact cM y (cM (λw=>y (aa w)) J)
       |io=>
        refine(?_ :(if(gr aw).K i=279/\f.va=am then ae (i+1) else ax)=_)
        refine I (show qI .io=[46,46,46] from J) (I ((C7 _ vr).1) (I kr ?_))
        have v1:f.va=am:=by
         cases y:f.va with
         |true=>rfl
         |false=>exact cq (I y J) bad
        by_cases y:(fO r.1).1=279
        ·exact dG ⟨y,v1⟩ (dG (aR y) J)
        ·exact cM (λw=>y w.1) (cM (λw=>y (aa w)) J)
       |brk=>
        refine(?_ :(if(gr aw).K i=258/\f.lp=am then ae (i+1) else ax)=_)
        refine I (show qI .brk=[98,114,101,97,107] from J) (I ((C7 _ vr).2) (I kr ?_))
        have v1:f.lp=am:=by
         cases y:f.lp with
         |true=>rfl
         |false=>exact cq (I y J) bad
        by_cases y:(fO r.1).1=258
        ·exact dG ⟨y,v1⟩ (dG (aR y) J)
        ·exact cM (λw=>y w.1) (cM (λw=>y (aa w)) J)
       |oZ=>exact cq J ne
      rw[e] at k
      exact k
     refine Ev.lo (C:=Cf X (n+1)) J _ (n9 (.cons (.lo J) .nil) (De λh2 m kp g=>aW _ (.s7 (nK (.inl (g)))) ?_))
     cases y:(mw r.1).any λa=>qI x==a with
     |true=>
      rw[y,cw J] at bL
      exact up _ (bL _ kp)
     |false=>
      rw[y,bG aC] at bL
      exact dn _ (bL _ kp)
  ·have e:ux (gr aw) (bh aw) f x i=ax:=by
    have e:=AE (fB z)
    induction x with
    |jZ=>exact cq J nx
    |any ks=>exact bG (by exact I e ((qW ks (gI.mp ok)).2.2.2.2))
    |_=>exact bG λy=>by rw[e] at y;exact cq y.1 (aa J)
   rw[e] at k
   exact bT (.NE (ge (aL ae (aR (lU.mpr (fB z)))))) (cJ dn (k h .refl))
end
section
variable{X:Prop}{n:D}{h A U T M:H}{Q:P1}{aw:ag iQ}{v fl:V}{f:Fg}{w:ag D}{i:D}{L:bS}{C:Cy}{R:PS}{O:ag S}
theorem G7(x:Rl):i8 x≠[]/\(i8 x).length<=8/\(i8 x).getLastD 0∉[42,43,63]:=aa (oi (p:=λx=>decide (i8 x≠[]/\(i8 x).length<=8/\(i8 x).getLastD 0∉[42,43,63])) J x)
theorem OH(x:Rl):∃a c,i8 x=a++[c]/\c∉[42,43,63]/\a.length<=8:=by
 refine i7 (G7 x) λe l m=>nT ((i8 x).dropLast) ((i8 x).getLastD 0) ?_ m (by refine I List.length_dropLast ?_;omega);refine I (List.getLastD_eq_getLast?) (I (List.getLast?_eq_some_getLast e) ?_);exact(List.dropLast_concat_getLast e).symm
theorem Ry:∀x:Tm,DZ x=am->(qI x).headD 64≠64/\(qI x).length<=10:=by
 intro x b;induction x with
 |any a=>
  exact((aa J):∀a∈BF,(uP (a.headD 0)).headD 64≠64/\(uP (a.headD 0)).length<=10) a (gI.mp b)
 |_=>exact aa J
theorem Cd(n:D):gu (n+1) 1=1:=(lF (k:=1)).trans (eI (mQ (bU _)))
theorem Na(n:D):gu (n+2) (-1)=n+1:=by
 refine(?_ :(max 0 (min (-1+((n+2:D):aF)) ((n+2:D):aF))).toNat=n+1);exact I (show-1+((n+2:D):aF)=((n+1:D):aF) by exact bO 0x37ae8240a2ba0a02cac9 J) (I toNat_min (eI (dR _)))
theorem RN{K:jR}{c:D}{s:ag D}(l:s.length<=100):yr K h (.str (c::s)) (.int 1) .none (.str s) h:=by
 have e:s=gN (c::s) (ae 1) ax:=by
  refine(?_ :s=((c::s).drop (gu (s.length+1) 1)).take (s.length+1-gu (s.length+1) 1))
  refine I (Cd ..) ?_
  exact(Xd (l:=s)).symm
 refine(aL (λz=>yr K h (.str (c::s)) (.int 1) .none (.str z) h) e).mpr (.str J J (by refine(?_ :s.length+1<=dW);exact bO 0x356227a0268240b9c380 J l) (?_ :gu (s.length+1) 1<=s.length+1));exact I (Cd ..) (bO 0x35a09009 J)
theorem OC{K:jR}{c d:D}{s:ag D}(l:s.length<=100):yr K h (.str (c::(s++[d]))) (.int 1) (.int (-1)) (.str s) h:=by
 have a:(c::(s++[d])).length=s.length+2:=by refine I bv ?_;refine I au ?_;rfl
 have e:s=gN (c::(s++[d])) (ae 1) (ae (-1)):=by
  refine(?_ :s=((c::(s++[d])).drop (gu (c::(s++[d])).length 1)).take (gu (c::(s++[d])).length (-1)-gu (c::(s++[d])).length 1))
  refine I a ?_;refine I (Na ..) ?_;refine I (Cd ..) ?_
  exact(List.take_left' J).symm
 refine(aL (λz=>yr K h (.str (c::(s++[d]))) (.int 1) (.int (-1)) (.str z) h) e).mpr (.str J J (by refine I a ?_;exact bO 0x356227a0268280b9c380 J l) (?_ :gu (c::(s++[d])).length 1<=gu (c::(s++[d])).length (-1)))
 exact I a (I (Na ..) (I (Cd ..) (bO 0x35a09009 J)))
theorem Dr{K:jR}{d:D}{s:ag D}(l:s.length<=100):yw K h (.str (s++[d])) (.int (-1)) (.str [d]):=by
 refine .str (k:=s.length) ?_ (by refine I (cF (aE _)) ?_;exact I (je ..) J);exact I au (Ay (az (mQ l) (ac J)))
theorem Ev.Nk{o lo:E}{x y u:V}(a:Ev C o L h x A)(b:Ev C lo L A y U)(g:yr C.K U x y .none u T):Ev C (.hO o (ae lo) ax) L h u T:=λQ q=>a _ (b _ (dO u T g q))
theorem Nj{o:E}{a x:ag D}{t:aD}(e:Ev C o L h (.str x) h)(y:(!(x==a))=t):Et C (.cj .NotEq o (.c (.str a))) L h t h:=y▸.cj e .co .QD
theorem Ms{o:E}{c:D}{y:ag D}{t:aD}(e:Ev C o L h (.str [c]) h)(z:(!decide (c∈y))=t):Et C (.cj .NotIn o (.c (.str y))) L h t h:=z▸.cj e .co (.MO .str)
theorem Mz{b:ag D}{d:ag E}(k:oh C d L (λc h=>∃a,Look C.K (h++[.bq c]) (.ref h.length) (.bq a)/\Y7 a=Y7 b/\cD C O (ip L b a) R (h++[.bq c])) h):cD C (.as (.tu b) (.bq d)::O) L R h:=k
def WW(G:D->av (av D))(m a k:D):av D->D×D->Prop
 |some j,p=>again G m j (k+1)=ae p
 |none,p=>p=(a,k)
theorem tj{G:D->av (av D)}{m a k:D}{p:D×D}(e:again G m a k=some p):∃c b,m=c+1/\G a=some b/\WW G c a k b p:=by
 induction m with
 |zero=>exact nn e
 |succ m=>
  change((G a).bind λj=>match j with|some j=>again G m j (k+1)|none=>some (a,k))=some p at e;cases g:G a with
  |none=>rw[g] at e;exact nn e
  |some b=>
   rw[g] at e;refine nT m b J J ?_;induction b with
   |none=>exact(aT e).symm
   |some j=>exact e
def FT(X:Prop)(n:D)(aw:ag iQ)(f:Fg)(g:Gf):Prop:=∀{h:H} {v fl:V} {r:Rl} {i:D} {a:av D} {Q:P1},dA h v aw->iw h fl f->i<=Y7 aw->g r i=ae a->(∀M,Kp h M->Q (rv a) M)->P.call ai X n (.fn 105) [v,.str (i8 r),.int i,fl] Q h
def JW(N:D)(g:Gf):Prop:=∀r i j,g r i=ae (ae j)->i<=N->j<=N
noncomputable abbrev iL(v:V)(s:ag D)(i:D)(fl:V)(b a:av V):bS:=[some v,some (.str s),some (.int i),some fl,b,a]
theorem OL{g:Gf}{p:Pp}{res:av D}(ok:(match p with| .t x=>DZ x|_=>am)=am)(q:dA h v aw)(qf:iw h fl f)(iK:∀r∈aw,r.1∈eO)(l:(Y7 aw)<=3000)(il:i<=Y7 aw)(F:FT X (n+2) aw f g)(B:JW (Y7 aw) g)(e:y5 g (gr aw) (bh aw) f p i=ae res)(k:∀M,Kp h M->Q (rv res) M):P.call ai X (n+3) (.fn 106) [v,.str (OO p),.int i,fl] Q h:=by
 refine bQ _ rfl J ?_
 have hd:∀{s:ag D} {c:D},s.length<=100->s.headD 64=c->s≠[]->Ev (Cf X (n+2)) (.sub (.l 1) (.c (.int 0))) (iL v s i fl ax ax) h (.str [c]) h:=λ{s c} l1 e1 ne=>by
  induction s with
  |nil=>exact cq J ne
  |cons a s=>
   clear tail_ih;exact sb e1 (.sub (.lo J) .co (.str (k:=0) (fJ (NP _) (az l1 (ac J))) J))
 induction p with
 |t x=>
  revert k;refine sb (si e) λk=>cv (Ry x ok) λn64 l1=>bT (Nj (hd (c:=(qI x).headD 64) (s:=qI x) (bO 0x3570e02e480 J l1) J λz=>by rw[z] at n64;exact n64 J) ?_) ?_
  ·exact I (aK.mpr λz=>n64 (qT z).1) J
  ·exact fQ (n9 (.cons (.lo J) (.cons (.lo J) (.cons (.lo J) (.cons (.lo J) .nil)))) (Ld ok q qf iK l (az il l) k))
 |r x m=>
  refine pC (OH x) λa c es nc la=>?_
  have lx:=(G7 x).2.1
  have ls:(oX m).length<=1:=by cases m<;>exact ac J
  refine bm (Nj (hd (c:=64) (s:=64::(i8 x++oX m)) (I bv (I au (dw 0xd5c3a8268040b8906e400 J lx ls))) J nofun) J) ?_
  by_cases m1:m= .dY
  ·clear ok;revert e ls;refine I m1 λe ls=>bT (Ms (c:=c) (.sub (.lo J) (.neg .co) ?_) ?_) ?_
   ·refine(?_ :yw _ _ (.str (64::(i8 x++[]))) _ _)
    exact I (bz ..) (I es (Dr (s:=64::a) (by refine(?_ :a.length+1<=100);exact bO 0x3570ea0902e400 J la)))
   ·exact I (aO nc) J
   ·refine fQ (n9 (.cons (.lo J) (.cons (.Nk (.lo J) .co (RN ?_)) (.cons (.lo J) (.cons (.lo J) .nil)))) ?_)
    ·exact I au (dw 0xd5c3a8040b8906e400 J lx ls)
    ·exact I (bz _) (F q qf il e k)
  ·obtain⟨d,ed,dm⟩:∃d,oX m=[d]/\d∈[42,43,63]:=by
    induction m with
    |dY=>exact cq J m1
    |eG=>exact aW 63 J (aa J)
    |eM=>exact aW 42 J (aa J)
    |kZ=>exact aW 43 J (aa J)
   have eS:∀{h:H} {L:bS},L[1]? =ae (ae (.str (64::(i8 x++oX m))))->Ev (Cf X (n+2)) (.sub (.l 1) (.neg (.c (.int 1)))) L h (.str [d]) h:=λg=> .sub (.lo g) (.neg .co) (I ed (Dr (s:=64::i8 x) (by refine(?_ :(i8 x).length+1<=100);exact bO 0x3570ea0902e400 J lx)))
   refine bm (Ms (eS J) (I (aR dm) J)) ?_
   have mid:∀{h:H} {L:bS},L[1]? =ae (ae (.str (64::(i8 x++oX m))))->Ev (Cf X (n+2)) (.hO (.l 1) (ae (.c (.int 1))) (ae (.neg (.c (.int 1))))) L h (.str (i8 x)) h:=λg=> .hO (.lo g) .co (.neg .co) (I ed (OC (az lx (ac J))))
   have cal:∀{A:H} {i1:D} {L:bS} {jo:av D} {Q:P1},Kp h A->L[0]? =ae (ae v)->L[1]? =ae (ae (.str (64::(i8 x++oX m))))->L[2]? =ae (ae (.int i1))->L[3]? =ae (ae fl)->i1<=Y7 aw->g x i1=ae jo->(∀M,Kp A M->Q (rv jo) M)->(wE (Cf X (n+2)) (.ca (.c (.fn 105)) [.l 0,.hO (.l 1) (ae (.c (.int 1))) (ae (.neg (.c (.int 1)))),.l 2,.l 3])).1 L Q A:=λkp g0 g1 g2 g3 il e k=>n9 (.cons (.lo g0) (.cons (mid g1) (.cons (.lo g2) (.cons (.lo g3) .nil)))) (F (q.kp kp) (qf.kp kp) il e k)
   have mc:∀{h:H} {L:bS} {t:aD},L[1]? =ae (ae (.str (64::(i8 x++oX m))))->∀y:D,(!(([d]:ag D)==[y]))=t->Et (Cf X (n+2)) (.cj .NotEq (.sub (.l 1) (.neg (.c (.int 1)))) (.c (.str [y]))) L h t h:=λg y z=>Nj (eS g) z
   have ge:∀{h:H} {L:bS} {jo:av D},L[4]? =ae (ae (rv jo))->Et (Cf X (n+2)) (.cj .GtE (.l 4) (.c (.int 0))) L h jo.isSome h:=λ{h L jo} g=>by
    induction jo with
    |none=>exact .cj (.lo g) .co (.int J)
    |some j=>exact .cj (.lo g) .co (.int (aL ae (aR (bN j))))
   have dn:∀{h:H} {L:bS},Ev (Cf X (n+2)) (.neg (.c (.int 1))) L h (.int (-1)) h:= .neg .co
   have bL:∀{A:H} {a1 k1:D} {o4:av V},Kp h A->res=(if k1=0/\d=43 then ax else ae a1)->cD (Cf X (n+2)) [.re (ae (.jP (.jr [.cj .Gt (.l 5) (.c (.int 0)),.cj .NotEq (.sub (.l 1) (.neg (.c (.int 1)))) (.c (.str [43]))]) (.l 2) (.neg (.c (.int 1)))))] (iL v (64::(i8 x++oX m)) a1 fl o4 (ae (.int (k1:D)))) (rt Q) A:=λ{A a1 k1 o4} kp e=>by
    refine fQ ((show Et (Cf X (n+2)) _ _ A (decide ((k1:aF)>0)|| !(([d]:ag D)==[43])) A from .QY (.cj (.lo J) .co (.int J)) (.QZ (mc J 43 J))) _ ?_)
    have k:=k A kp
    rw[e] at k
    by_cases y:k1=0/\d=43
    ·rw[cw y] at k
     exact I y.1 (I y.2 (cM (aa J) (dn _ k)))
    ·rw[bG y] at k
     exact dG (by
      by_cases z:k1=0
      ·exact I (aK.mpr λw=>y ⟨z,(qT w).1⟩) (Bool.or_true _)
      ·exact I (aR (VQ z)) J) (Ev.lo J _ k)
   have dY:∀{A:H} {a1 k1 j:D} {Q':PS},k1<=4000->((wE (Cf X (n+2)) (.jP (.cj .NotEq (.sub (.l 1) (.neg (.c (.int 1)))) (.c (.str [63]))) (.ca (.c (.fn 105)) [.l 0,.hO (.l 1) (ae (.c (.int 1))) (ae (.neg (.c (.int 1)))),.l 2,.l 3]) (.neg (.c (.int 1))))).1 (iL v (64::(i8 x++oX m)) j fl (ae (.int j)) (ae (.int ((k1+1:D):aF)))) (λy=>Q' .next (iL v (64::(i8 x++oX m)) j fl (ae y) (ae (.int ((k1+1:D):aF))))) (A++[.bq [.int j,.int ((k1+1:D):aF)]]))->cD (Cf X (n+2)) [.as (.tu [2,5]) (.bq [.l 4,.dy .Add (.l 5) (.c (.int 1))]),.as (.n 4) (.jP (.cj .NotEq (.sub (.l 1) (.neg (.c (.int 1)))) (.c (.str [63]))) (.ca (.c (.fn 105)) [.l 0,.hO (.l 1) (ae (.c (.int 1))) (ae (.neg (.c (.int 1)))),.l 2,.l 3]) (.neg (.c (.int 1))))] (iL v (64::(i8 x++oX m)) a1 fl (ae (.int j)) (ae (.int k1))) Q' A:=λ{A a1 k1 j Q'} l1 k=>pY (.bq (.cons (.lo J) (.cons (.dy (.lo J) .co (.int (jt (dU (az l1 (ac J))) J))) .nil))) lk J (cN k)
   have fst:∀{jo:av D} {O:ag S},g x i=ae jo->(∀A,Kp h A->cD (Cf X (n+2)) O (iL v (64::(i8 x++oX m)) i fl (ae (rv jo)) (ae (.int (0:D)))) (rt Q) A)->cD (Cf X (n+2)) (.as (.tu [4,5]) (.bq [.ca (.c (.fn 105)) [.l 0,.hO (.l 1) (ae (.c (.int 1))) (ae (.neg (.c (.int 1)))),.l 2,.l 3],.c (.int 0)])::O) (iL v (64::(i8 x++oX m)) i fl ax ax) (rt Q) h:=λe1 k1=>Mz (cal .refl J J J J il e1 λA kp=>(bQ _ lk J (k1 _ (kp.trans .push))))
   by_cases mo:m= .eG
   ·clear ok ls m1 mid cal;revert e ed mc bL dY fst;refine I mo λe ed mc bL dY fst=>?_
    clear dm eS;cases ed
    change(g x i).map (λj=>ae (j.getD i))=ae res at e
    cases e1:g x i with
    |none=>rw[e1] at e;exact nn e
    |some jo=>
     rw[e1] at e
     have er:=aT e
     refine fst e1 λA kp=>?_
     induction jo with
     |none=>exact Ei (ge (jo:=ax) J) (bL (k1:=0) kp (I (aQ er) (cM (aa J) J)))
     |some j=>exact Jo (ge (jo:=ae j) J) (λQ' q'=>dY (bU _) (mc J 63 J _ (dn _ q'))) (ge (jo:=ax) J) (bL (k1:=1) (kp.trans .push) (I (aQ er) (cM (aa J) J)))
   ·have nd:(!(([d]:ag D)==[63]))=am:=by
     induction m with
     |dY=>exact cq J m1
     |eG=>exact cq J mo
     |eM=>clear dm eS mc bL;cases ed;rfl
     |kZ=>clear dm eS mc bL;cases ed;rfl
    obtain⟨p,e1,er⟩:∃p,again (g x) 4000 i 0=ae p/\res=(if p.2=0/\d=43 then ax else ae p.1):=by
     induction m with
     |dY=>exact cq J m1
     |eG=>exact cq J mo
     |eM=>
      clear dm nd eS mc bL;cases ed
      change(again (g x) 4000 i 0).map (λp=>ae p.1)=ae res at e
      cases a:again (g x) 4000 i 0 with
      |none=>rw[a] at e;exact nn e
      |some p=>
       rw[a] at e
       exact aW p J (cM (λy=>cq y.2 (aa J)) ((aT e).symm))
     |kZ=>
      clear dm nd eS mc bL;cases ed
      change(again (g x) 4000 i 0).map (λp=>if p.2=0 then ax else ae p.1)=ae res at e
      cases a:again (g x) 4000 i 0 with
      |none=>rw[a] at e;exact nn e
      |some p=>
       rw[a] at e
       refine aW p J ((aT e).symm.trans ?_)
       by_cases y:p.2=0
       ·exact(cw y).trans (cw ⟨y,rfl⟩).symm
       ·exact(bG y).trans (bG λw=>y w.1).symm
    refine pC (tj e1) λm' jo em e2 e3=>fst e2 λA kp=>wC (λu L' M=>∃a1 k1 jo,L'=iL v (64::(i8 x++oX m)) a1 fl (ae (rv jo)) (ae (.int (k1:D)))/\Kp h M/\WW (g x) u a1 k1 jo p/\(∀j,jo=ae j->j<=Y7 aw)/\k1+u<=4000) m' (tU i 0 jo J kp e3 (λj y=>B x i j (y▸e2) il) (bO 0x356225e8008c282406225f4 J em)) λu L' M st=>Ml st λa1 k1 jo eL kp r jl ku=>?_;clear st
    refine I eL (ge (jo:=jo) J _ ?_)
    induction jo with
    |none=>
     refine cM (aa J) ?_
     clear e1 e3;revert er;exact I r λer=>bL kp er
    |some j=>
     exact dG (by rfl) (pC (tj r) λu' jo' eu e4 r'=>dY (dw 0xd5889702e6225e8040 J ku) (mc J 63 nd _ (dG J (cal (kp.trans .push) J J J J (jl j J) e4 λT kp3=>⟨u',dw 0x36001c28241034 J eu,j,k1+1,jo',rfl,(kp.trans .push).trans kp3,r',λj2 y=>B x j j2 (y▸e4) (jl j J),gC 0xd58897a02a09030a09081d2e6225e8040 J ku eu⟩))))
end
section
variable{X:Gx}{g:Gf}{B:D->aD}{f:Fg}{N:D}
theorem Ja{G:D->av (av D)}(z:∀i j,G i=ae (ae j)->i<=N->j<=N):∀m a k p,again G m a k=ae p->a<=N->p.1<=N:=by
 intro b;induction b with
 |zero=>
  intro c c c e c;exact nomatch e
 |succ m f=>
  intro a k p e l;refine pC (tj e) λn d g h r=>?_;cases g;induction d with
  |none=>exact I r l
  |some j=>exact f j (k+1) p r (z a j h l)
theorem Hc(h:∀i,N<=i->X.K i=287)(c:JW N g){p:Pp}(ok:(match p with| .t x=>DZ x|_=>am)=am){i j:D}(e:y5 g X B f p i=ae (ae j))(l:i<=N):j<=N:=by
 induction p with
 |t x=>
  have e:=aT e;have b:X.K i≠287->i+1<=N:=λy=>gM λz=>y (h i z);induction x with
  |jZ=>
   change(if X.K i=40 then ax else ae i)=ae j at e;by_cases y:X.K i=40
   ·rw[cw y] at e;exact nn e
   ·rw[bG y] at e;exact sb (si e) l
  |any d=>
   change(if X.K i∈d then ae (i+1) else ax)=ae j at e;by_cases y:X.K i∈d
   ·rw[cw y] at e;exact sb (si e) (b λz=>(qW d (gI.mp ok)).2.2.2.2 (z▸y))
   ·rw[bG y] at e;exact nn e
  |io=>
   change(if X.K i=279/\f.va=am then ae (i+1) else ax)=ae j at e;by_cases y:X.K i=279/\f.va=am
   ·rw[cw y] at e;exact sb (si e) (b (I y.1 (aa J)))
   ·rw[bG y] at e;exact nn e
  |brk=>
   change(if X.K i=258/\f.lp=am then ae (i+1) else ax)=ae j at e;by_cases y:X.K i=258/\f.lp=am
   ·rw[cw y] at e;exact sb (si e) (b (I y.1 (aa J)))
   ·rw[bG y] at e;exact nn e
  |oZ=>
   change(if X.K i=40/\B i=ai then ae (i+1) else ax)=ae j at e;by_cases y:X.K i=40/\B i=ai
   ·rw[cw y] at e;exact sb (si e) (b (I y.1 (aa J)))
   ·rw[bG y] at e;exact nn e
 |r x m=>
  have n:∀p,again (g x) 4000 i 0=ae p->p.1<=N:=λp a=>Ja (λi j e l=>c x i j e l) _ _ _ p a l;induction m with
  |dY=>exact c x i j e l
  |eG=>
   change(g x i).map (λj=>ae (j.getD i))=ae (ae j) at e;cases k:g x i with
   |none=>rw[k] at e;exact nn e
   |some o=>
    rw[k] at e;cases e;induction o with
    |none=>exact l
    |some j=>exact c x i j k l
  |eM=>
   change(again (g x) 4000 i 0).map (λp=>ae p.1)=ae (ae j) at e;cases a:again (g x) 4000 i 0 with
   |none=>rw[a] at e;exact nn e
   |some p=>rw[a] at e;cases e;exact n p a
  |kZ=>
   change(again (g x) 4000 i 0).map (λp=>if p.2=0 then ax else ae p.1)=ae (ae j) at e;cases a:again (g x) 4000 i 0 with
   |none=>rw[a] at e;exact nn e
   |some p=>
    rw[a] at e;have e:(if p.2=0 then ax else ae p.1)=ae j:=aT e;by_cases y:p.2=0
    ·rw[cw y] at e;exact nn e
    ·rw[bG y] at e;exact sb (si e) (n p a)
noncomputable def ML:Pp->aD
 | .t x=>DZ x
 |_=>am
theorem OT(d:∀i,N<=i->X.K i=287)(m:JW N g):∀{b:ag Pp} {i j:D},b.all ML=am->jB g X B f b i=some (some j)->i<=N->j<=N:=by
 intro a;induction a with
 |nil=>
  intro i j q e l;cases e;exact l
 |cons p b o=>
  intro i j c e l;have c:=(aq _ _).mp c;change((y5 g X B f p i).bind λj=>match j with|some j=>jB g X B f b j|none=>some none)=_ at e;cases h:y5 g X B f p i with
  |none=>rw[h] at e;exact nn e
  |some n=>
   rw[h] at e;induction n with
   |none=>cases e
   |some k=>exact o c.2 e (Hc d m c.1 h l)
theorem OS(d:∀i,N<=i->X.K i=287)(m:JW N g):∀{b:ag (ag Pp)} {i j:D},b.all (·.all ML)=am->rf g X B f b i=some (some j)->i<=N->j<=N:=by
 intro a;induction a with
 |nil=>
  intro i j p e l;exact nomatch e
 |cons w b o=>
  intro i j c e l;have c:=(aq _ _).mp c;change((jB g X B f w i).bind λj=>match j with|some j=>some (some j)|none=>rf g X B f b i)=_ at e;cases h:jB g X B f w i with
  |none=>rw[h] at e;exact nn e
  |some n=>
   rw[h] at e;induction n with
   |none=>exact o c.2 e l
   |some k=>cases e;exact OT d m c.1 h l
theorem Ae(r:Rl):(lJ r).all (·.all ML)=am:=oi (p:=λr=>(lJ r).all (·.all ML)) J r
theorem MF(c:∀i,N<=i->X.K i=287):∀(m:D) (B:D->aD) (f:Fg),JW N (pg X m B f):=by
 intro b;induction b with
 |zero=>
  intro a a a a a e a;exact nomatch e
 |succ m d=>
  intro B f r i j e l;exact OS c (d _ _) (Ae r) e l
end
theorem Dq{v x:V}{b:ag V}(e:BQ v=x::b):∃a,v= .aV a/\P.K a=some (.list (x::b)):=by
 induction v with
 |aV a=>
  refine aW a J ?_;change(match(kL[a]? :av O) with|some (.list b)=>b|_=>[])=x::b at e;refine(?_ :kL[a]? =_);cases g:kL[a]? with
  |none=>rw[g] at e;cases e
  |some o=>
   rw[g] at e;induction o with
   |list c=>subst e;rfl
   |_=>cases e
 |_=>cases e
theorem Ij:P.K 21=ae (.dict xI):=rfl
theorem Ii{s:ag D}:xh (.str s) xI:=rfl
theorem Ke(r:Rl):∃w a,lJ r=w::a:=List.exists_cons_of_ne_nil λe=>ft (e▸oi (p:=λr=> !(lJ r).isEmpty) J r:(!([]:ag (ag Pp)).isEmpty)=am)
theorem HM(r:Rl):(lJ r).all (λw=> !w.isEmpty)=am:=oi (p:=λr=>(lJ r).all (λw=> !w.isEmpty)) J r
theorem Oa(r:Rl):∃a b,dp (.str (i8 r)) xI=ae (.aV a)/\P.K a=ae (.list b)/\b.map BQ=(lJ r).map (·.map λp=> .str (OO p)):=by
 have t:=aa (Kq r);refine Mm (Ke r) λw h d=>?_;rw[d] at t;cases c:BQ (.aV (TA (QN r))) with
 |nil=>rw[c] at t;exact nomatch t.2
 |cons x b=>
  refine aM (Dq c) λf e g=>?_;rw[c] at t;exact nT f (x::b) (t.1.trans (aL _ e)) g (I d t.2)
theorem GX:∀w∈eO,([41]==w)=decide ((fO w).1=41)/\([46,46,46]==w)=decide ((fO w).1=279):=aa J
section
variable{aw:ag iQ}
theorem IP(b:∀r∈aw,r.1∈eO):∀n i,n=Y7 aw-i->ug (gr aw) n i=((aw.drop i).map (·.1)).any λw=>[41]==w:=by
 intro a;induction a with
 |zero=>
  intro i e;exact I (NS (Q9 e)) J
 |succ n c=>
  intro i e;have l:=Q8 e;refine I (dS l) (I im (I qU (I ((GX _ (b _ (dh l))).1) (?_ :(if(gr aw).K i=41 then am else ug (gr aw) n (i+1))=_))));refine I (c (i+1) (NJ e)) (I (rT (aI l)) ?_);by_cases y:(fO aw[i].1).1=41
  ·exact dG y (I (aR y) J)
  ·exact cM y (I (aO y) J)
theorem EY(a:∀r∈aw,r.1∈eO):∀n i,n=Y7 aw-i->sx (gr aw) n i=((((aw.drop i).map (·.1)).any λw=>[41]==w)&&(((aw.drop i).map (·.1)).take (((aw.drop i).map (·.1)).findIdx λw=>[41]==w)).any λw=>[46,46,46]==w):=by
 intro b;induction b with
 |zero=>
  intro i e;exact I (NS (Q9 e)) J
 |succ n d=>
  intro i e;have l:=Q8 e;have c:=GX _ (a _ (dh l));refine I (dS l) (I im (I qU (I List.findIdx_cons (I c.1 (?_ :(if(gr aw).K i=41 then ai else if(gr aw).K i=279 then ug (gr aw) n (i+1) else sx (gr aw) n (i+1))=_)))));refine I (IP a n (i+1) (NJ e)) (I (d (i+1) (NJ e)) (I (rT (aI l)) ?_));by_cases y:(fO aw[i].1).1=41
  ·exact dG y (I (aR y) J)
  ·refine cM y (I (aO y) (?_ :_=((((aw.drop (i+1)).map (·.1)).any λw=>[41]==w)&&(([46,46,46]==aw[i].1)||_))));refine I c.2 ?_;by_cases z:(fO aw[i].1).1=279
   ·exact dG z (I (aR z) (I (Bool.true_or ..) (I (Bool.and_true ..) J)))
   ·exact cM z (I (aO z) (I (xy ..) J))
end
section
variable{X:Prop}{n:D}{h m t u d:H}{Q:P1}{aw:ag iQ}{v fl:V}{f:Fg}{w:ag D}{i:D}{L:bS}{C:Cy}{R:PS}{o:ag S}
theorem FK{i:D}{e:E}{b:ag S}{x:V}{c:ag V}(a:Ev C e L h x m)(k:Ah C.K x c (λj v L=>cD C b (cx L i v)) (λfl g=>match fl with
 | .next=>cD C o g R
 |f=>R f g) c 0 L m):cD C (.fo i e b::o) L R h:=a _ ⟨c,k⟩
noncomputable abbrev fL(v:V)(s:ag D)(i:D)(fl:V)(e c b a:av V):bS:=[some v,some (.str s),some (.int i),some fl,e,c,b,a]
noncomputable abbrev MG:ag S:=[.jC (.cj .GtE (.l 6) (.c (.int 0))) [.as (.n 6) (.ca (.c (.fn 106)) [.l 0,.l 7,.l 6,.l 3])] []]
noncomputable abbrev Ug:ag S:=[.as (.n 6) (.l 2),.fo 7 (.l 5) MG,.jC (.cj .GtE (.l 6) (.c (.int 0))) [.re (ae (.l 6))] []]
theorem BJ{jo:av D}{x:D}(g:L[x]? =ae (ae (rv jo))):Et C (.cj .GtE (.l x) (.c (.int 0))) L h jo.isSome h:=by
 induction jo with
 |none=>exact .cj (.lo g) .co (.int J)
 |some j=>exact .cj (.lo g) .co (.int (aL ae (aR (bN j))))
noncomputable def WX(g:Gf)(X:Gx)(B:D->aD)(f:Fg)(a:ag Pp)(b:av D):av (av D):=match b with
 |some j=>jB g X B f a j
 |none=>ae ax
theorem Lf{g:Gf}{s:ag D}{S Q:av V}{a:D}{O:ag V}(ga:P.K a=some (.list O))(G:∀r∈aw,r.1∈eO)(l:(Y7 aw)<=3000)(F:FT X (n+2) aw f g)(B:JW (Y7 aw) g){R:PS}:∀{x:ag Pp} {h:H} {k:D} {jo b:av D} {w:av V},x.all ML=am->dA h v aw->iw h fl f->(∀j,jo=some j->j<=Y7 aw)->WX g (gr aw) (bh aw) f x jo=some b->(∀d w,Kp h d->R .next (fL v s i fl S Q (some (rv b)) w) d)->
  Ah (Cf X (n+3)).K (.aV a) O (λY v L=>cD (Cf X (n+3)) MG (cx L 7 v)) R (x.map λp=> .str (OO p)) k (fL v s i fl S Q (some (rv jo)) w) h:=by
 intro C;induction C with
 |nil=>
  intro h k jo b w c q E N e z;refine⟨ga,?_⟩;induction jo with
  |none=>revert z;exact sb (si e) λz=>z h _ .refl
  |some j=>revert z;exact sb (si e) λz=>z h _ .refl
 |cons p x U=>
  intro h k jo b w c q E N e z;have c:=(aq _ _).mp c;refine⟨ga,?_⟩;induction jo with
  |none=>exact bm (BJ (jo:=none) J) (U (jo:=none) c.2 q E nofun (by exact sb (si e) J) z)
  |some j=>
   change((y5 g (gr aw) (bh aw) f p j).bind λj=>match j with|some j=>jB g (gr aw) (bh aw) f x j|none=>some none)=_ at e;cases A:y5 g (gr aw) (bh aw) f p j with
   |none=>rw[A] at e;exact nn e
   |some T=>
    rw[A] at e;exact bT (BJ (jo:=some j) J) (cN (n9 (.cons (.lo J) (.cons (.lo J) (.cons (.lo J) (.cons (.lo J) .nil)))) (OL c.1 q E G l (N j J) F B A λm M=>U c.2 (q.kp M) (E.kp M) (λZ y=>by
     revert A;exact I y λA=>Hc (λi z=>by
      refine(?_ :(tk aw i).1=_);unfold tk;refine I (dF z) ?_;rfl) B c.1 A (N j J)) (show WX g (gr aw) (bh aw) f x T=some b by cases T<;>exact e) λt w W=>z t w (M.trans W))))
theorem OJ{g:Gf}{s:ag D}{o4:av V}{a:D}{xs:ag V}(ga:P.K a=some (.list xs))(T:∀r∈aw,r.1∈eO)(l:(Y7 aw)<=3000)(il:i<=Y7 aw)(F:FT X (n+2) aw f g)(B:JW (Y7 aw) g):∀{E:ag (ag Pp)} {A:ag V} {h:H} {k:D} {x:av D} {Y W O:av V},E.all (·.all ML)=am->E.all (λw=> !w.isEmpty)=am->A.map BQ=E.map (·.map λp=> .str (OO p))->dA h v aw->iw h fl f->rf g (gr aw) (bh aw) f E i=some x->(∀d,Kp h d->Q (rv x) d)->
  Ah (Cf X (n+3)).K (.aV a) xs (λx_ v L=>cD (Cf X (n+3)) Ug (cx L 5 v)) (λfl L'=>match fl with
   | .next=>cD (Cf X (n+3)) [.re (some (.neg (.c (.int 1))))] L' (rt Q)
   |f=>rt Q f L') A k (fL v s i fl o4 Y W O) h:=by
 intro N;induction N with
 |nil=>
  intro A h k x Y W O G M C q U e z;cases A with
  |cons v A=>cases C
  |nil=>
   revert z;exact sb (si e) λz=>⟨ga,cJ (.neg .co) (z h .refl)⟩
 |cons w E ih=>
  intro A h k x Y W O G M C q U e z;have G:=(aq _ _).mp G;have M:=(aq _ _).mp M;cases A with
  |nil=>cases C
  |cons y A=>
   have C:=qT C;cases w with
   |nil=>exact nomatch M.1
   |cons p ps=>
    refine aM (Dq C.1) λb eb gb=>?_;subst eb;change((jB g (gr aw) (bh aw) f (p::ps) i).bind λj=>match j with|some j=>some (some j)|none=>rf g (gr aw) (bh aw) f E i)=_ at e;cases Z:jB g (gr aw) (bh aw) f (p::ps) i with
    |none=>rw[Z] at e;exact nn e
    |some S=>
     rw[Z] at e;refine⟨ga,cZ (.lo J) (FK (.lo J) (Lf (jo:=some i) gb T l F B G.1 q U (λj y=>sb (si y) il) Z λm O R=>?_))⟩;cases S with
     |none=>exact bm (BJ (jo:=none) J) (ih G.2 M.2 C.2 (q.kp R) (U.kp R) e λd k'=>z d (R.trans k'))
     |some j=>
      revert z;exact sb (si e) λz=>bT (BJ (jo:=some j) J) (cJ (.lo J) (z m R))
end
section
variable{X:Prop}{n:D}{h c s A F:H}{Q:P1}{aw:ag iQ}{v fl:V}{f:Fg}{w:ag D}{i:D}{L:bS}{C:Cy}{R:PS}{u:ag S}
theorem Ev.SG{e d:E}{v:V}(a:Ev C e L h (.bool am) c)(b:Ev C d L c v s):Ev C (.du [e,d]) L h v s:=λQ q=>a _ (aW am J (b _ q))
theorem Nc{k n:D}(l:k<=n):gu n (k:aF)=k:=lF.trans (eI l)
theorem Hz{α:Type}{xs:ag α}{k:D}(l:k<=Y7 xs):gN xs (ae (k:aF)) ax=xs.drop k:=by
 refine(?_ :(xs.drop (gu (Y7 xs) k)).take (Y7 xs-gu (Y7 xs) k)=_);exact I (Nc l) (bK (I bM (aE _)))
theorem Bj{α:Type}{xs:ag α}{k:D}(l:k<=Y7 xs):gN xs ax (ae (k:aF))=xs.take k:=by
 refine(?_ :(xs.drop 0).take (gu (Y7 xs) k-0)=_);exact I (Nc l) J
def Al(h:H)(a:ag V)(b:ag iQ):Prop:=(Y7 a)=Y7 b/\∀(k:D) r,b[k]? =ae r->∃t,a[k]? =ae (.ref t)/\h[t]? =ae (.bq [.str r.1,.bool r.2])
theorem LC{K:jR}{m:D}{i:ag V}(gx:c[m]? =ae (.list i)):∀{f:ag V} {d:ag iQ} {b:ag V},Al c f d->Y7 b+Y7 d<=dW->Q (.ref (Y7 c)) (c++[.list (b++(d.map (·.1)).map .str)])->DX K (.ref m) i (λv Q h=>∃y,yw K h v (.int 0) y/\Q y h) (Y7 c) Q f (c++[.list b]):=by
 intro f;induction f with
 |nil=>
  intro d;cases d with
  |nil=>exact λa l k=>⟨bH gx,by rw[zZ,zZ,bz] at k;exact k⟩
  |cons r d=>exact λa=>nomatch a.1
 |cons v f j=>
  intro d;cases d with
  |nil=>exact λa=>nomatch a.1
  |cons r d=>
   intro b a l k;refine aM (a.2 0 r J) λt e g=>?_;revert a;refine I (si e) λa=>?_;rw[bv] at l;exact⟨bH gx,_,.bq (k:=0) (bH g) (fJ (by refine(?_ :0<2);exact ac J) (by refine(?_ :2<=dW);exact ac J)) J,b,lk,gC 0xd4202e0a8a09040 J l,I (show(c++[O.list b]).set (Y7 c) (.list (b++[.str r.1]))=c++[.list (b++[.str r.1])] by exact I (uu _ _ (aE _)) (I (je ..) J)) (j ⟨lR a.1,λk r e=>a.2 (k+1) r e⟩ (by refine I au (?_ :(Y7 b)+1+_<=_);exact gC 0xd42a01a0902e0a8a09040 J l) (I (a7 ..) k))⟩
theorem Lb(q:dA h v aw)(l:(Y7 aw)<=3000)(n:i<=Y7 aw)(b:C.ba=ai){o d:E}(x:Ev C o L h v h)(y:Ev C d L h (.int i) h):∃m,Ev C (.JR (.hO o (ae d) ax)) L h (.ref (h++[m]).length) (h++[m]++[.list (((aw.drop i).map (·.1)).map .str)]):=by
 revert x;refine hV v q λR j a=>λx=>?_;refine i7 a λg f z=>?_;refine⟨.list (j.drop i),λQ k=>⟨b,x _ (y _ (dO _ _ (.list g J J (show (Y7 j)<=dW by exact I f (az l (ac J)))) (I (Hz (I f n)) (⟨_,LC lk ⟨I bM (I bM (I f J)),λk r e=>?_⟩ ?_ k⟩))))⟩⟩
 ·rw[T9] at e;exact aM (z _ _ e) λt w p=>aW t (by refine I (T9) ?_;exact w) (bH p)
 ·exact I bM (az (tE _▸jJ _ _) (az l (ac J)))
theorem K5(r:Rl)(h:r≠.gq):(i8 r==[108,111,111,112])=ai:=(bc _).mp (FO h (oi (p:=λr=>gW r.n.1 5|| !(i8 r==[108,111,111,112])) J r))
theorem K6(r:Rl)(h:r≠.dQ):(i8 r==[105,116,101,109])=ai:=(bc _).mp (FO h (oi (p:=λr=>gW r.n.1 33|| !(i8 r==[105,116,101,109])) J r))
theorem K7(r:Rl)(h:r≠.body):(i8 r==[98,111,100,121])=ai:=(bc _).mp (FO h (oi (p:=λr=>gW r.n.1 34|| !(i8 r==[98,111,100,121])) J r))
theorem SK{G:Gx}(r:Rl)(h:r≠.gq)(c:r≠.body):f.at G r i=f:=(bG λe=>h (BR e)).trans (bG λe=>c (BR e))
theorem UN{G:Gx}{B:D->aD}(r:Rl)(h:r≠.dQ):oz G B r i=B:=bG λe=>h (BR e)
theorem HN:∀w∈eO,decide (mw w=[[110,97,109,101]])=decide ((fO w).1=285):=aa J
theorem LQ{xs ys:ag (ag D)}:oQ (xs.map .str) (ys.map .str)=decide (xs=ys):=by
 unfold oQ;refine I (aH ..) (I (aH ..) ?_);induction xs generalizing ys with
 |nil=>cases ys<;>rfl
 |cons x xs ih=>
  induction ys with
  |nil=>rfl
  |cons y ys=>
   refine I im (I im (I kS (I ju (I bv (I bv (?_ :(_&&((ae (y==x)==ae am)&&_))=_))))));refine I (show(ae (y==x)==ae am)=decide (x=y) by
    by_cases e:x=y
    ·exact sb e (I (fW ..) (I (aR J) J))
    ·exact I (aO e) (I (aK.mpr λz=>e z.symm) J)) ?_;by_cases e:x=y
   ·refine sb e ?_;rewrite(config:={}) [aR J,J9,show decide (Y7 xs+1=Y7 ys+1)=decide (Y7 xs=Y7 ys) by congr 1;exact zM Nat.succ_inj,(ih (ys:=ys))];congr 1;exact zM ⟨λz=>I z J,λz=>(qT z).2⟩
   ·exact I (aO e) (I (vS ..) (I (lV ..) (I (aO λz=>e (qT z).1) J)))
theorem dA.set(q:dA h v aw){j:D}{w:ag D}{b:aD}{t:D}(g:h[t]? =ae (.bq [.str w,.bool b])){m:D}{vs:ag V}{R:D}(ev:v= .ref R)(i:h[R]? =ae (.list vs))(d:j<Y7 aw)(l:h[m]? =ae (.list (vs.set j (.ref t)))):dA h (.ref m) (aw.set j (w,b)):=by
 refine uS q λo f e n a z=>?_;cases ev.symm.trans e;cases i.symm.trans n;refine tV m _ rfl l (I bC (I bC (I a J))) (λk r e=>?_);rw[z0] at e⊢;by_cases y:j=k
 ·revert e;refine sb y λe=>?_;rw[cw J,cw d] at e;exact sb (si e) (aW _ (dG J (dG (a▸d) J)) g)
 ·rw[bG y] at e⊢;exact z k r e
theorem Pi{j:D}{r:iQ}{b:aD}(e:aw[j]? =ae r):gr (aw.set j (r.1,b))=gr aw:=by
 unfold gr;refine I bC ?_;congr 1;funext k;unfold tk;refine I (z0) ?_;by_cases y:j=k
 ·refine sb y (dG J (dG ((aY.mp e).1) ?_));exact I e J
 ·exact cM y J
theorem PM{j:D}{w:ag D}(l:j<Y7 aw):bh (aw.set j (w,ai))=λk=>if k=j then ai else bh aw k:=by
 funext k;unfold bh;refine I (z0) ?_;by_cases y:j=k
 ·exact sb y (dG J (dG l (dG J J)))
 ·exact cM y (cM (λz=>y z.symm) J)
end
section
variable{X:Prop}{n:D}{h N E G B:H}{Q:P1}{aw:ag iQ}{v fl:V}{f:Fg}{w:ag D}{i:D}{L:bS}{C:Cy}{R:PS}{M:ag S}
noncomputable abbrev Uq:S:= .jC (.cj .Eq (.l 1) (.c (.str [108,111,111,112]))) [.as (.n 3) (.bq [.c (.bool am),.sub (.l 3) (.c (.int 1))])] []
noncomputable abbrev Qw:S:= .jC (.du [.cj .Eq (.l 1) (.c (.str [105,116,101,109])),.cj .Lt (.dy .Add (.l 2) (.c (.int 1))) (.ca (.c (.bi 0)) [.l 0]),.cj .Eq (.ca (.c (.fn 103)) [.sub (.sub (.l 0) (.l 2)) (.c (.int 0))]) (.eS [.c (.str [110,97,109,101])])]) [.as (.n 0) (.dy .Add (.dy .Add (.hO (.l 0) ax (ae (.dy .Add (.l 2) (.c (.int 1))))) (.eS [.bq [.sub (.sub (.l 0) (.dy .Add (.l 2) (.c (.int 1)))) (.c (.int 0)),.c (.bool ai)]])) (.hO (.l 0) (ae (.dy .Add (.l 2) (.c (.int 2)))) ax))] []
noncomputable abbrev Up:S:= .jC (.cj .Eq (.l 1) (.c (.str [98,111,100,121]))) [.as (.n 4) (.JR (.hO (.l 0) (ae (.l 2)) ax)),.as (.n 3) (.bq [.c (.bool ai),.du [.cj .In (.c (.str [41])) (.l 4),.cj .In (.c (.str [46,46,46])) (.hO (.l 4) ax (ae (.me (.l 4) 1007 [.c (.str [41])])))]])] []
theorem ON(q:dA h v aw)(u:∀r∈aw,r.1∈eO)(l:(Y7 aw)<=3000)(Q:i<=Y7 aw){s:ag D}{j f e:av V}(k:∀B b P,Kp h B->iw B b ⟨ai,sx (gr aw) (Y7 aw-i) i⟩->cD (Cf X n) M (fL v s i b P j f e) R B):cD (Cf X n) (.as (.n 4) (.JR (.hO (.l 0) (ae (.l 2)) ax)):: .as (.n 3) (.bq [.c (.bool ai),.du [.cj .In (.c (.str [41])) (.l 4),.cj .In (.c (.str [46,46,46])) (.hO (.l 4) ax (ae (.me (.l 4) 1007 [.c (.str [41])])))]])::M) (fL v s i fl ax j f e) R h:=by
 refine cs (Lb (C:=Cf X n) (L:=fL v s i fl ax j f e) (o:= .l 0) (d:= .l 2) q l Q J (.lo J) (.lo J)) λa K=>cZ K ?_
 rw[EY u _ i J] at k
 have A:((aw.drop i).map (·.1)).length<=3000:=by refine I (aH ..) ?_;refine I bM ?_;exact az (jJ _ _) l
 generalize(aw.drop i).map (·.1)=ws at k A⊢
 have g:(h++[a]++[O.list (ws.map .str)])[(h++[a]).length]? =ae (.list (ws.map .str)):=lk
 have z:Kp h (h++[a]++[O.list (ws.map .str)]):=Kp.push.trans .push
 generalize h++[a]++[O.list (ws.map .str)]=E at g z⊢
 generalize(h++[a]).length=m at g⊢
 have t:Ev (Cf X n) (.cj .In (.c (.str [41])) (.l 4)) (fL v s i fl (ae (.ref m)) j f e) E (.bool (ws.any λw=>[41]==w)) E:= .cj .co (.lo J) (.s7 (nK (.inl (g))))
 cases y:ws.any λw=>[41]==w with
 |false=>
  rw[y] at t k
  exact cZ (.bq (.cons .co (.cons (.hZ t) .nil))) (k _ _ _ (z.trans .push) (aW _ rfl lk))
 |true=>
  rw[y,J9] at k
  rw[y] at t
  have F:(ws.map V.str).length<=dW:=by refine I (aH ..) ?_;exact az A (ac J)
  refine cZ (.bq (.cons .co (.cons (.SG t (.cj .co (.BN (.lo J) (.vV (.lo J) (.list g (.inr (.inr (.inr J)))) (.cons .co .nil) (.M0 (k:=ws.findIdx λw=>[41]==w) g F ?_ ?_) (aa J)) (.list g J J F)) (.s7 (nK (is:=ws.take (ws.findIdx λw=>[41]==w)) (.inl ?_))))) .nil))) (k _ _ _ ((z.trans .push).trans .push) (aW _ rfl lk))
  ·unfold js
   exact I lT (aS.mpr λH H=>rfl)
  ·refine I (List.findIdx?_map) ?_
   exact I (show((λx=>iY (V.str [41]) x==ae am)∘V.str)=λw=>[41]==w by
    funext w
    refine(?_ :(ae (([41]:ag D)==w)==ae am)=_)
    cases([41]:ag D)==w<;>rfl) (List.findIdx?_eq_some_of_exists (mS.mp y))
  ·refine(?_ :(E++[O.list _])[Y7 E]? =_)
   exact I lk (I (Bj (I (aH ..) (dw 0xd4102f040 J (List.findIdx_lt_length_of_exists (p:=λw=>[41]==w) (xs:=ws) (mS.mp y))))) (I qS J))
theorem OK(q:dA h v aw)(x:∀r∈aw,r.1∈eO)(l:(Y7 aw)<=3000)(il:i<=Y7 aw){S Q P F:av V}(k:∀B v' b,Kp h B->dA B v' b->Y7 b=Y7 aw->(∀r∈b,r.1∈eO)->gr b=gr aw->bh b=oz (gr aw) (bh aw) .dQ i->cD (Cf X (n+1)) M (fL v' (i8 .dQ) i fl S Q P F) R B):cD (Cf X (n+1)) (Qw::M) (fL v (i8 .dQ) i fl S Q P F) R h:=by
 have W:∀{h:H} {j:D} {s:ag D},j<=2->Ev (Cf X (n+1)) (.dy .Add (.l 2) (.c (.int (j:D)))) (fL v s i fl S Q P F) h (.int ((i+j:D):aF)) h:=λlj=> .dy (.lo J) .co (.int (jt (dU (dw 0x356227a0241b8006e8234c0 J l il)) (dU (bO 0xd5889e80902e280 J lj))))
 have nu:((gr aw).K i=285/\i+1<Y7 aw->bA)->cD (Cf X (n+1)) M (fL v (i8 .dQ) i fl S Q P F) R h:=λno=>k h v aw .refl q J x J (bG no).symm
 have aj:∀{B},Kp h B->((gr aw).K i=285/\i+1<Y7 aw->bA)->cD (Cf X (n+1)) M (fL v (i8 .dQ) i fl S Q P F) R B:=λ{B} T no=>k B v aw T (q.kp T) J x J (bG no).symm
 refine ua (Dz (kX J J) (yJ ((show Et (Cf X (n+1)) (.cj .Lt (.dy .Add (.l 2) (.c (.int 1))) (.ca (.c (.bi 0)) [.l 0])) (fL v (i8 .dQ) i fl S Q P F) h (decide (((i+1:D):aF)<Y7 aw)) h from .cj (W (j:=1) (ac J)) (q.len l (.lo J)) (.int J)) _ ?_)))
 by_cases z:i+1<(Y7 aw)
 ·refine I (aR (f8.mpr z)) (dG J ?_)
  obtain⟨r,hr⟩:∃r,aw[i]? =ae r:=⟨_,aI (dw 0xd8102f068240 J z)⟩
  obtain⟨Z,U⟩:∃r,aw[i+1]? =ae r:=⟨_,aI z⟩
  refine aM (q.dQ (C:=Cf X (n+1)) (L:=fL v (i8 .dQ) i fl S Q P F) (e:= .l 0) (d:= .l 2) l hr (.lo J) (.lo J)) λt e1 g1=>uM (Ev.sub (C:=Cf X (n+1)) e1 .co (.bq (k:=0) g1 (fJ (by refine(?_ :0<2);exact ac J) (by refine(?_ :2<=dW);exact ac J)) J) _ (De λE m T g=>(aW _ (.eS (bH g) lk (λw=>kF _ (w▸(aY.mp g).1:(Y7 E)<Y7 E)) ?_) ?_)))
  ·intro p pm
   exact cv (DO pm) λp1 p2=>aM (NQ.mp p1) λa x_ e1=>I (ao.mp p2) (I (aQ e1) J)
  have T:=T.trans (.push (o:= .list [.str [110,97,109,101]]))
  generalize E++[O.list [.str [110,97,109,101]]]=G at T⊢
  refine I (show[V.str [110,97,109,101]]=[[110,97,109,101]].map V.str from J) (I LQ (I (HN _ (x r (bI hr))) ?_))
  by_cases y:(fO r.1).1=285
  ·refine I (aR y) ?_
   dsimp only
   refine dG J (dG J ?_)
   have Y:=q.kp T
   refine uS Y λR f ev gR ln q'=>?_
   have Y:=q.kp T
   have lv:(Y7 f)<=dW:=by refine I ln ?_;exact az l (ac J)
   have af:=ln▸l
   revert W Y;refine I ev λW Y=>?_
   have A:Ev (Cf X (n+1)) (.hO (.l 0) ax (ae (.dy .Add (.l 2) (.c (.int 1))))) (fL (.ref R) (i8 .dQ) i fl S Q P F) G (.ref (Y7 G)) (G++[.list (f.take (i+1))]):= .BN (.lo J) (W (j:=1) (ac J)) (I (aQ (Bj (xs:=f) (k:=i+1) (gC 0xd42a09030042d2f068240 J z ln))) (.list gR J J lv))
   refine aM ((Y.kp (.push (o:= .list (f.take (i+1))))).dQ (C:=Cf X (n+1)) (L:=fL (.ref R) (i8 .dQ) i fl S Q P F) (e:= .l 0) (d:= .dy .Add (.l 2) (.c (.int 1))) l U (.lo J) (W (j:=1) (ac J))) λt1 e2 g2=>?_
   have AB:=Ev.dy (op:= .Add) A (Ev.eS (C:=Cf X (n+1)) (.cons (.bq (.cons (.sub e2 .co (.bq (k:=0) g2 (fJ (by refine(?_ :0<2);exact ac J) (by refine(?_ :2<=dW);exact ac J)) J)) (.cons (Ev.co (v:= .bool ai)) .nil))) .nil)) (.yn (xs:=f.take (i+1)) (ys:=[.ref (G++[O.list (f.take (i+1))]).length]) (bH (bH lk)) lk (by refine I bE (?_ :_+1<=dW);exact VP af))
   have G4:(G++[O.list (f.take (i+1))]++[O.bq [.str Z.1,.bool ai]])[(G++[O.list (f.take (i+1))]).length]? =ae (.bq [.str Z.1,.bool ai]):=lk
   generalize(G++[O.list (f.take (i+1))]).length=t4 at AB G4
   have C:=Ev.Nk (C:=Cf X (n+1)) (L:=fL (.ref R) (i8 .dQ) i fl S Q P F) (o:= .l 0) (lo:= .dy .Add (.l 2) (.c (.int 2))) (h:=G++[O.list (f.take (i+1))]++[O.bq [.str Z.1,.bool ai]]++[O.list [.ref t4]]++[O.list (f.take (i+1)++[.ref t4])]) (.lo J) (W (j:=2) (ac J)) (.list (xs:=f) (l:=ae ((i+2:D):aF)) (u:=ax) (bH (bH (bH (bH gR)))) J J lv)
   rw[Hz (xs:=f) (k:=i+2) (gC 0xd42a0a030042d2f068240 J z ln)] at C
   refine cZ (Ev.dy (op:= .Add) AB C (.yn (xs:=f.take (i+1)++[.ref t4]) (ys:=f.drop (i+2)) (bH lk) lk (by refine I au (I bE (I bM (?_ :_+1+_<=dW)));exact VO af))) (k _ _ (aw.set (i+1) (Z.1,ai)) (((((T.trans .push).trans .push).trans .push).trans .push|>.trans .push).trans .push) (dA.set (h:=_) (t:=t4) (vs:=f) (R:=R) (v:= .ref R) (Y.kp (((((Kp.push.trans .push).trans .push).trans .push).trans .push).trans .push)) ?_ rfl (bH (bH (bH (bH (bH (bH gR)))))) z ?_) (bC ..) (λr m=>?_) (Pi U) ?_)
   ·exact bH (bH (bH (bH G4)))
   ·exact I List.set_eq_take_append_cons_drop (dG (gC 0xd82a09030042d2f068240 J z ln) (I (show f.take (i+1)++V.ref t4::f.drop (i+1+1)=f.take (i+1)++[V.ref t4]++f.drop (i+2) from List.append_cons ..) lk))
   ·rcases List.mem_or_eq_of_mem_set m with m|m
    ·exact x r m
    ·exact I m (x Z (bI U))
   ·exact I (PM z) ((cw ⟨(rT hr).trans y,z⟩).symm)
  ·refine I (aO y) ?_
   dsimp only
   exact cM aC (cM aC (aj T λw=>y (I (aQ w.1) ((rT hr).symm))))
 ·exact I (aO λy=>z (f8.mp y)) (cM aC (cM aC (nu λy=>z y.2)))
theorem RR{r:Rl}(q:dA h v aw)(t:iw h fl f)(e:∀r∈aw,r.1∈eO)(l:(Y7 aw)<=3000)(w:i<=Y7 aw)(k:∀B p g d u,Kp h B->dA B p d->iw B g (f.at (gr aw) r i)->Y7 d=Y7 aw->(∀r∈d,r.1∈eO)->gr d=gr aw->bh d=oz (gr aw) (bh aw) r i->cD (Cf X (n+1)) M (fL p (i8 r) i g u ax ax ax) R B):cD (Cf X (n+1)) (Uq::Qw::Up::M) (fL v (i8 r) i fl ax ax ax ax) R h:=by
 by_cases a:r= .gq
 ·revert k;exact I a λk=>bT (kX J J) (cZ (.bq (.cons .co (.cons (t.at (j:=1) J (.lo J)) .nil))) (bm (.hZ (kX J J)) (bm (kX J J) (k _ _ _ aw _ .push (q.kp .push) (aW _ rfl lk) J e J J))))
 refine bm (kX J (K5 r a)) ?_;by_cases b:r= .dQ
 ·revert k;exact I b λk=>OK q e l w λB p d o x y m z A=>bm (kX J J) (k B p fl d _ o x (t.kp o) y m z A)
 refine bm (.hZ (kX J (K6 r b))) ?_;by_cases c:r= .body
 ·revert k;exact I c λk=>bT (kX J J) (ON q e l w λB g u o s=>k B v g aw u o (q.kp o) s J e J J)
 refine bm (kX J (K7 r c)) (k h v fl aw ax .refl q ?_ rfl e J ?_)
 ·exact I (SK r a c) t
 ·exact I (UN r b) J
theorem OM:∀(m:D) (aw:ag iQ) (f:Fg),(∀r∈aw,r.1∈eO)->Y7 aw<=3000->FT X (2*m+2) aw f (pg (gr aw) m (bh aw) f):=by
 intro m;induction m with
 |zero=>intro aw f d d;exact λd d d e d=>nomatch e
 |succ m H=>
  intro aw f o l h v fl r i p Q q s j e k;refine bQ _ rfl J (RR (n:=2*m+2) q s o l j λB R K b S A y g t c w L=>pC (Oa r) λa P O ga x=>?_);have u:=t▸l;have e:rf (pg (gr aw) m (oz (gr aw) (bh aw) r i) (f.at (gr aw) r i)) (gr aw) (oz (gr aw) (bh aw) r i) (f.at (gr aw) r i) (lJ r) i=ae p:=e;have F:FT X (2*m+2) b (f.at (gr aw) r i) (pg (gr b) m (bh b) (f.at (gr aw) r i)):=λq s j e k=>H b _ c u q s j e k;rw[<-L,<-w] at e;rw[<-w] at g F;exact FK (.sub .co (.lo J) (.dict (Ij) Ii O)) (OJ ga c u (t▸j) F (MF (λi z=>by
   refine(?_ :(tk b i).1=_);unfold tk;refine I (dF z) ?_;rfl) m _ _) (Ae r) (HM r) x y g e λE C=>k E (A.trans C))
end
noncomputable def U(j:Fin 4)(w:ag D):aF:=match j with
 |0=>wD (fO w).1
 |1=>wM (fO w).1
 |2=>JJ (fO w).1
 |3=>1+(w.length:aF)
noncomputable def su(j:Fin 4):ag (ag D)->aF
 |[]=>0
 |w::r=>U j w+su j r
noncomputable abbrev Bd:=Fin 4->aF×aF
structure Pf(b:Bd)(f:ag (ag D)):Prop where
 iK:∀w∈f,w∈eO
 A6:∀j,su j f<=(b j).1
 pre:∀j k,su j (f.take k)<=(b j).2
section
variable{a b:Bd}{g h f:ag (ag D)}{j:Fin 4}
theorem lY:su j (g++h)=su j g+su j h:=by
 induction g with
 |nil=>exact(tM _).symm
 |cons x g a=>
  refine(?_ :U j x+su j (g++h)=U j x+su j g+su j h);exact I a (I (J8 ..) J)
noncomputable def JA(a b:Bd):Bd:=λj=>((a j).1+(b j).1,max (a j).2 ((a j).1+(b j).2))
noncomputable def sY:Bd:=λa=>(0,0)
theorem Pf.nil:Pf sY []:=⟨nofun,λa=>cy _,λj k=>I kH (cy _)⟩
theorem Pf.ii(p:Pf a g)(q:Pf b h):Pf (JA a b) (g++h):=by
 refine⟨λw m=>(dH.mp m).elim (p.iK w) (q.iK w),λj=>?_,λj k=>?_⟩
 ·exact I lY (GQ (p.A6 j) (q.A6 j))
 ·refine I By (I lY ?_);by_cases l:k<=(Y7 g)
  ·exact I (P3 l) (I pW (f9 (I (show su j []=0 from J) (I (dT ..) (p.pre j k))) (Int.le_max_left ..)))
  ·exact I (bK (dw 0xd40071040 J l)) (f9 (GQ (p.A6 j) (q.pre j _)) (Xh ..))
noncomputable def EJ(a b:Bd):aD:=(decide ((a 0).1<=(b 0).1/\(a 0).2<=(b 0).2)&&decide ((a 1).1<=(b 1).1/\(a 1).2<=(b 1).2))&&(decide ((a 2).1<=(b 2).1/\(a 2).2<=(b 2).2)&&decide ((a 3).1<=(b 3).1/\(a 3).2<=(b 3).2))
theorem Hk(l:EJ a b=am):∀j,(a j).1<=(b j).1/\(a j).2<=(b j).2:=by
 unfold EJ at l;rw[aq,aq,aq,bp,bp,bp,bp] at l;intro j;match j with
 |0=>exact l.1.1
 |1=>exact l.1.2
 |2=>exact l.2.1
 |3=>exact l.2.2
theorem Pf.le(p:Pf a f)(l:EJ a b=am):Pf b f:=⟨p.iK,λj=>f9 (p.A6 j) (Hk l j).1,λj k=>f9 (p.pre j k) (Hk l j).2⟩
noncomputable def Nn(w:ag D):Bd:=λj=>(U j w,max 0 (U j w))
theorem Pf.dY{w:ag D}(m:w∈eO):Pf (Nn w) [w]:=by
 refine⟨λx n=>I (ao.mp n) m,λj=>?_,λj k=>?_⟩
 ·refine(?_ :U j w+0<=U j w);exact I (dT ..) (cy _)
 ·induction k with
  |zero=>exact Int.le_max_left ..
  |succ k=>
   refine I ef (I kH (?_ :U j w+0<=_));exact I (dT ..) (Xh ..)
theorem O8:((Y7 f):aF)<=su 3 f:=by
 induction f with
 |nil=>exact cy _
 |cons w r a=>
  refine I bv (?_ :_<=1+(w.length:aF)+su 3 r);exact JO 0xd680a8ac1ac9ae8240b82ac0 J a
theorem Pf.len(p:Pf b f):((Y7 f):aF)<=(b 3).1:=f9 O8 (p.A6 3)
noncomputable def TB(e s:Bd)(w:ag D):Bd:=if w=[69] then e else if w=[83] then s else Nn w
noncomputable def Qq(e s:Bd):Bd->ag (ag D)->Bd
 |a,[]=>a
 |a,w::r=>Qq e s (JA a (TB e s w)) r
noncomputable def Wy(e s:D)(w:ag D):D:=if w=[69] then e else if w=[83] then s else 0
noncomputable def Tl(e s:D):ag (ag D)->D
 |[]=>0
 |w::r=>Wy e s w+Tl e s r
noncomputable def JK(e s:Bd)(i d:D)(c a:aD)(b:Bd)(K:D)(t:ag D):aD:=
 ((decide (1<=t.length/\t.length<=1000)&&decide ((lZ t 32).length<=40))&&((lZ t 32).all λw=>(c&&w==[69])||(a&&w==[83])||eO.contains w))&&(EJ (Qq e s sY (lZ t 32)) b&&decide (Tl i d (lZ t 32)<=K))
noncomputable def JT:ag (ag D):=[[97],[49],[39,115,39],[46,46,46],[102,32,40,32,97,32,41],[110,105,108]]
noncomputable def Jx:ag (ag D):=[[45,32,69],[110,111,116,32,69],[69,32,43,32,69],[69,32,46,46,32,69,32,45,32,69],[40,32,69,32,41],[123,32,69,32,44,32,98,32,61,32,69,32,59,32,91,32,69,32,93,32,61,32,69,32,44,32,125],[102,117,110,99,116,105,111,110,32,40,32,97,32,44,32,46,46,46,32,41,32,114,101,116,117,114,110,32,46,46,46,32,101,110,100]]
noncomputable def NC:ag (ag D):=[[97,32,46,32,98,32,91,32,69,32,93],[102,32,40,32,69,32,44,32,97,32,41,32,39,115,39],[97,32,58,32,98,32,123,32,125],[102,117,110,99,116,105,111,110,32,40,32,41,32,83,32,101,110,100],[35,32,97,32,61,61,32,69]]
noncomputable def E2:ag (ag D):=[[97,32,61,32,69],[102,32,40,32,69,32,41],[108,111,99,97,108,32,97,32,44,32,98,32,61,32,69],[98,114,101,97,107],[114,101,116,117,114,110,32,69],[102,32,58,32,103,32,39,115,39,32,59],[40,32,102,32,41,32,40,32,69,32,41]]
noncomputable def B8:ag (ag D):=[[100,111,32,83,32,101,110,100],[119,104,105,108,101,32,69,32,100,111,32,83,32,98,114,101,97,107,32,101,110,100],[114,101,112,101,97,116,32,108,111,99,97,108,32,97,32,61,32,69,32,117,110,116,105,108,32,97],[105,102,32,69,32,116,104,101,110,32,83,32,101,108,115,101,105,102,32,69,32,116,104,101,110,32,83,32,101,108,115,101,32,83,32,101,110,100]]
noncomputable def E1:ag (ag D):=[[102,111,114,32,105,32,61,32,69,32,44,32,49,32,100,111,32,83,32,101,110,100],[102,111,114,32,105,32,44,32,106,32,105,110,32,69,32,44,32,97,32,100,111,32,98,114,101,97,107,32,59,32,101,110,100],[102,117,110,99,116,105,111,110,32,102,32,46,32,103,32,58,32,104,32,40,32,97,32,44,32,46,46,46,32,41,32,83,32,114,101,116,117,114,110,32,46,46,46,32,101,110,100]]
noncomputable def Jy:ag (ag D):=[[108,111,99,97,108,32,102,117,110,99,116,105,111,110,32,102,32,40,32,41,32,114,101,116,117,114,110,32,69,32,59,32,101,110,100],[97,32,46,32,98,32,44,32,99,32,91,32,69,32,93,32,61,32,69,32,44,32,69],[102,32,40,32,97,32,41,32,46,32,99,32,61,32,69],[105,102,32,97,32,116,104,101,110,32,101,108,115,101,32,101,110,100,32,83]]
noncomputable def EE(a b c d:aF×aF):Bd:=λj=>match j with
 |0=>a
 |1=>b
 |2=>c
 |3=>d
noncomputable def HE:Bd:=EE (0,2) (0,0) (0,11) (8,8)
noncomputable def Q0:Bd:=EE (2,7) (3,3) (2,33) (52,52)
noncomputable def Nd:Bd:=EE (1,4) (2,2) (0,22) (22,22)
noncomputable def Q1:Bd:=EE (3,8) (7,7) (0,33) (111,111)
noncomputable def JU:Bd:=EE (13,20) (27,27) (6,48) (466,466)
theorem Ux:JT.all (JK sY sY 0 0 ai ai HE 0)=am:=by decide+kernel
theorem Uw:(JT++Jx++NC).all (JK HE Nd 1 2 am am Q0 4)=am:=by decide+kernel
theorem UA:E2.all (JK HE sY 1 0 am ai Nd 1)=am:=by decide+kernel
theorem Uz:(E2++B8++E1++Jy).all (JK HE Nd 1 2 am am Q1 8)=am:=by decide+kernel
theorem Uy:(E2++B8++E1++Jy).all (JK Q0 Q1 5 9 am am JU 37)=am:=by decide+kernel
end
section
variable{X:Prop}{n b c k:D}{h f s i:H}{Q:P1}{L:bS}{C:Cy}{R:PS}{t:ag S}
def Bx(h:H)(b c k:D):Prop:=∃(a:ag aF) (m:D),h[b]? =ae (.list [.ref c,.int k,.int m])/\h[c]? =ae (.list (a.map .int))/\c≠b/\Y7 a<=30/\m<1000
def Kb(b:D)(h f:H):Prop:=∀(m:D) o,m≠b->h[m]? =ae o->f[m]? =ae o
theorem Kb.trans(x:Kb b h s)(y:Kb b s i):Kb b h i:=λm o n g=>y m o n (x m o n g)
theorem Kp.kb(k:Kp h f):Kb b h f:=λm o a g=>k m o g
theorem Bx.kp(q:Bx h b c k)(z:Kp h f):Bx f b c k:=pC q λe m a d r=>(nT e m (z _ _ a) (z _ _ d) r)
theorem Bh{a:aF}{w:D}(l:0<w):∃r:D,r<w/\qz .Mod a w=ae (r:aF):=by
 have p:=Int.natCast_pos.mpr l;have e:((a%(w:aF)).toNat:aF)=a%w:=oI (Int.emod_nonneg _ (NT p));refine aW ((a%(w:aF)).toNat) ?_ ?_
 ·exact Vg e (Int.emod_lt_of_pos a p)
 ·exact I e (cw p)
theorem QH{a c:aF}(l:a.natAbs<2^31):qz .Mult a c=ae (a*c):=cw l
theorem UL{a:aF}:qz .FloorDiv a 3=ae (a/3):=rfl
theorem vi{w:D}(q:Bx h b c k)(lk:k<=900)(U:0<w)(z:∀f (r:D),r<w->Bx f b c (k+1)->Kb b h f->Y7 f=h.length->Q (.int r) f):P.call ai X (n+1) (.fn 98) [.ref b,.int w] Q h:=by
 refine bQ _ rfl J (wY q λA m O gs T C G=>?_);have Y:qz .Add (k:aF) 1=some ((k+1:D):aF):=jt (dU (az lk (ac J))) J;have B:∀{h:H} {j:D} {v:V} {o:E} {N:aF},h[b]? =some (.list [.ref c,.int N,.int m])->[V.ref c,.int N,.int m][j]? =some v->Ev (Cf X n) (.sub (.l 0) (.c (.int j))) [some (.ref b),some (.int w)] h v h:=λ{h j v o N} g e=> .sub (.lo J) .co (.list g (fJ (zC e) (by refine(?_ :3<=dW);exact ac J)) e);refine MA (.dy (B (o:= .l 0) (j:=1) O J) .co (.int Y)) (.lo J) .co (.list (k:=1) O (by refine(?_ :1<3);exact ac J) (by refine(?_ :3<=dW);exact ac J)) ?_;have d:(h.set b (.list ([V.ref c,.int k,.int m].set 1 (.int ((k+1:D):aF)))))[b]? =some (.list [.ref c,.int ((k+1:D):aF),.int m]):=by
  refine I (fN (j4 O)) ?_
  rfl
 have M:Kb b h (h.set b (.list ([V.ref c,.int k,.int m].set 1 (.int ((k+1:D):aF))))):=λj o Z g=>by
  refine I (fC λe=>Z e.symm) ?_;exact g
 have u:=M c _ T gs;have W:(h.set b (.list ([V.ref c,.int k,.int m].set 1 (.int ((k+1:D):aF))))).length=h.length:=bC ..;generalize h.set b (.list ([V.ref c,.int k,.int m].set 1 (.int ((k+1:D):aF))))=i at d u M W⊢;have x:∀r:D,r<w->Q (.int r) i:=λr l=>z i r l (wU A m d u T C G) M W;have p:=B (o:= .l 0) (j:=1) d J;have y:=B (o:= .l 0) (j:=0) d J;have L:Ev (Cf X n) (.ca (.c (.bi 0)) [.sub (.l 0) (.c (.int 0))]) [some (.ref b),some (.int w)] i (.int ((Y7 A):D)) i:=by
  have:=Ev.bi (b:=0) (.cons y .nil) (nD.list (K:=(Cf X n).K) (v:= .ref c) u (I (aH ..) (az C (ac J))))
  rwa [aH] at this
 refine m8 (.cj p L (.int J)) (λe=>?_) λe=>?_
 ·have l:=dw 0xd8102eac1ae8240 J ((aa e):((k+1:D):aF)<=((Y7 A):D));refine aM (Bh (a:=A[k]) U) λr F R=>cJ (.dy (.sub y (.dy p .co (.int (k:=(k:aF)) ?_)) (.list (k:=k) u (fJ (I (aH ..) l) (I (aH ..) (az C (ac J)))) (by refine I (dL) ?_;refine I (aI l) ?_;rfl))) (.lo J) (.int R)) (x r F);exact I (mJ (dU (bO 0xd5889e809a0902e7202c0 J lk)) J) (aL some (bO 0xdeb02aac9ae8240 J))
 ·refine aM (Bh (a:=(m:aF)+7*((k+1:D):aF)+((k+1:D):aF)*((k+1:D):aF)/3) U) λr F R=>?_;have S:∀{a:D},a<=1000000->rq (a:aF)=am:=λ{a} l=>yq ⟨bO 0xd6b02cac9 J,bO 0xd6b61c69c5eb02e61c69c5c0 J l⟩;refine cJ (.dy (.dy (.dy (B (o:= .l 0) (j:=2) d J) (.dy .co p (.int (QH (ac J)))) (.int (jt (dU (bO 0xd5889e80902f8262c0 J G)) ?_))) (.dy (.dy p p (.int (QH (by omega)))) .co (.int UL)) (.int (jt ?_ ?_))) (.lo J) (.int R)) (x r F)
  ·exact I ((DS 7 _).symm) (S (bO 0x3561c69c5e9a0900fb9c80b033cf3cf3cf3 J lk))
  ·exact I (show(m:aF)+7*((k+1:D):aF)=((m+7*(k+1):D):aF) by exact dw 0x37ae8a682413c0a29ae8241acfac0 J) (S (dw 0xd5871a717a29a0900f06f8262c1b9c80b033cf3cf3cf3 J lk G))
  ·exact I ((DS _ _).symm) (I (show(((k+1)*(k+1):D):aF)/3=(((k+1)*(k+1)/3:D):aF) from J) (S (az (Nat.div_le_self ..) (az (Nat.mul_le_mul (bO 0xd5d80ba0902e7202c0 J lk) (bO 0xd5d80ba0902e7202c0 J lk)) (ac J)))))
end
section
variable{X:Prop}{n b c k:D}{h A O M:H}{Q:P1}{L:bS}{C:Cy}{R:PS}{N:ag S}{d:aF}{e s bd:Bd}{F B K:D}{u a:aD}
theorem Bx.ne(q:Bx h b c k){m:D}{ws:ag (ag D)}(g:h[m]? =ae (.list (ws.map .str))):m≠b:=λe=>by
 refine cY q λf j d i=>?_;revert d;refine sb e λd=>?_;induction ws with
 |nil=>cases d.symm.trans g
 |cons w r=>cases d.symm.trans g
theorem Kb.len(z:Kb b h A)(q:Bx A b c k):h.length<=(Y7 A):=by
 cases e:h.length with
 |zero=>exact bU _
 |succ l=>
  by_cases y:l=b
  ·refine cY q λf i d g=>?_;revert d;exact sb y λd=>j4 d
  ·exact j4 (z l h[l] y (aI (by omega)))
def jX(X:Prop)(n b c:D)(f:D)(g:ag V)(bd:Bd)(K:D):Prop:=∀{h:H} {k:D} {Q:P1},Bx h b c k->k+K<=900->(∀A m d e,Bx A b c e->e<=k+K->Kb b h A->A[m]? =ae (.list (d.map .str))->Pf bd d->Q (.ref m) A)->P.call ai X n (.fn f) (.ref b::g) Q h
noncomputable abbrev WC:ag S:=[.jC (.cj .Eq (.l 4) (.c (.str [69]))) [.as (.n 3) (.dy .Add (.l 3) (.ca (.c (.fn 100)) [.l 0,.dy .Sub (.l 2) (.c (.int 1))]))] [.jC (.cj .Eq (.l 4) (.c (.str [83]))) [.as (.n 3) (.dy .Add (.l 3) (.ca (.c (.fn 101)) [.l 0,.dy .Sub (.l 2) (.c (.int 1))]))] [.ex (.me (.l 3) 1000 [.l 4])]]]
theorem Pk{h0:H}{x:D}{Y:ag (ag D)}{t:V}(bg:rq d=am)(cl:c<Y7 h0)(E:u=am->jX X n b c 100 [.int (d-1)] e F/\(e 3).1<=500)(S:a=am->jX X n b c 101 [.int (d-1)] s B/\(s 3).1<=500){Z:Bd}{KZ:D}(z:∀A m' aj k',Bx A b c k'->k'<=KZ->Kb b h0 A->A[m']? =some (.list (aj.map .str))->Pf Z aj->Q (.ref m') A):∀{tm:ag (ag D)} {h:H} {k m j:D} {ws:ag (ag D)} {R:Bd} {o4:av V},Bx h b c k->k+Tl F B tm<=KZ->KZ<=900->h[m]? =some (.list (ws.map .str))->m≠x->Y7 h0<=m->Kb b h0 h->h[x]? =some (.list (Y.map .str))->Pf R ws->Y7 ws+501*(Y7 tm)<=20040->(tm.all λw=>(u&&w==[69])||(a&&w==[83])||eO.contains w)=am->Qq e s R tm=Z->
  Ah (Cf X n).K (.ref x) (Y.map .str) (λx_ v L=>cD (Cf X n) WC (cx L 4 v)) (λfl T=>match fl with
   | .next=>cD (Cf X n) [.re (some (.l 3))] T (rt Q)
   |f=>rt Q f T) (tm.map .str) j [some (.ref b),some t,some (.int d),some (.ref m),o4] h:=by
 intro Fr;induction Fr with
 |nil=>
  intro h k m j ws R o4 q kl l9 g mx m0 kb gx p ln U ez;exact⟨gx,cJ (.lo J) (z h m ws k q kl kb g (ez▸p))⟩
 |cons w tm ih=>
  intro h k m j ws R o4 q kl l9 g mx m0 kb gx p ln U ez;refine⟨gx,?_⟩;have U:=(aq _ _).mp U;rw[bv] at ln;have kl:=kl;have ez:=ez;have GT:∀{f kf:D} {bf:Bd},jX X n b c f [.int (d-1)] bf kf->(bf 3).1<=500->Wy F B w=kf->TB e s w=bf->(wE (Cf X n) (.dy .Add (.l 3) (.ca (.c (.fn f)) [.l 0,.dy .Sub (.l 2) (.c (.int 1))]))).1 [some (.ref b),some t,some (.int d),some (.ref m),some (.str w)] (λv=>cD (Cf X n) [] [some (.ref b),some t,some (.int d),some v,some (.str w)] (λfl T=>match fl with
    | .next=>Ah (Cf X n).K (.ref x) (Y.map .str) (λx_ v L=>cD (Cf X n) WC (cx L 4 v)) (λfl T=>match fl with
     | .next=>cD (Cf X n) [.re (some (.l 3))] T (rt Q)
     |f=>rt Q f T) (tm.map .str) (j+1) T
    | .brk=>cD (Cf X n) [.re (some (.l 3))] T (rt Q)
    | .ret v=>rt Q (.ret v) T)) h:=λ{f kf bf} G l5 eK eB=>by
   refine Ev.lo (C:=Cf X n) (v:= .ref m) J _ (n9 (.cons (.lo J) (.cons (.dy (.lo J) .co (.int (mJ bg J))) .nil)) (G q (Wt 0x357202e8101c040b4b80a280c206e7202c0 J l9 kl eK) λM m2 af k2 q2 Id P g2 p2=>?_));have l2:=p2.len;refine dO _ _ (.yn (xs:=ws.map .str) (ys:=af.map .str) (P m _ (q.ne g) g) g2 (by refine I (aH ..) (I (aH ..) ?_);exact Wv 0x356227a0268080b83ac2bab727243ba0726328a68241767240 J ln l5 l2)) ?_;have GE:=P x _ (q.ne gx) gx;exact I (aQ fj) (ih (ws:=ws++af) (q2.kp .push) (Xv 0x350e8085ba8100170101d2e0e8a02040 J kl eK Id) l9 lk (fM (j4 GE)) ((kb.trans P).len q2) ((kb.trans P).trans (Kp.kb .push)) (bH GE) (p.ii p2) (I au (Wv 0xd60726328a41767268080b83ac2bab727243ba0726328a68241767240 J ln l5 l2)) U.2 (eB▸ez))
  by_cases wE:w=[69]
  ·have hE:u=am:=by
    have o:=U.1
    induction u with
    |true=>rfl
    |false=>rw[wE] at o;cases a<;>exact cq o (aa J)
   exact bT (kX J (a6.mpr wE)) (cN (GT (E hE).1 (E hE).2 (cw wE) (cw wE)))
  refine bm (kX J (aK.mpr wE)) ?_;by_cases W:w=[83]
  ·have hS:a=am:=by
    have o:=U.1
    induction a with
    |true=>rfl
    |false=>rw[W] at o;cases u<;>exact cq o (aa J)
   exact bT (kX J (a6.mpr W)) (cN (GT (S hS).1 (S hS).2 ((bG wE).trans (cw W)) ((bG wE).trans (cw W))))
  refine bm (kX J (aK.mpr W)) ?_;have vw:w∈eO:=by
   have o:(u&&w==[69]||a&&w==[83]||eO.contains w)=am:=U.1
   rw[aK.mpr wE,aK.mpr W,lV,lV,xy,xy] at o
   exact uw.mp o
  refine ia (.vV (.lo J) (.list g (.inl J)) (.cons (.lo J) .nil) (.ii g (by refine I (aH ..) ?_;exact dw 0x356227a0240ba0726328a68241767240 J ln)) (aa J)) ?_;have gn:(h.set m (.list (ws.map .str++[.str w])))[m]? =some (.list ((ws++[w]).map .str)):=by
   refine I (fN (j4 g)) ?_;refine I fj ?_
   rfl
  have y:∀(i:D) o,i≠m->h[i]? =some o->(h.set m (.list (ws.map .str++[.str w])))[i]? =some o:=λi o ne g=>by
   refine I (fC λe=>ne e.symm) ?_;exact g
  have q':Bx (h.set m (.list (ws.map .str++[.str w]))) b c k:=by
   have nb:=q.ne g
   refine pC q λxs m' gb gs r=>?_
   exact nT xs m' (y _ _ (λe=>nb e.symm) gb) (y _ _ (cr (cQ cl m0)) gs) r
  exact ih (ws:=ws++[w]) q' (ri 0xd43a0202e0e8a02040 J kl) l9 gn mx m0 (λi o nb gi=>y i o (λe=>gC 0x3bbc00b0042d2e040 J m0 e (j4 gi)) (kb i o nb gi)) (y x _ (λe=>mx e.symm) gx) (p.ii (.dY vw)) (by refine I au (?_ :(Y7 ws)+1+_<=_);exact dw 0xd60726328a41767268240ba0726328a68241767240 J ln) U.2 ((((bG wE).trans (bG W)):TB e s w=Nn w)▸ez)
end
section
variable{X:Prop}{n b c k:D}{h j w p:H}{Q:P1}{L:bS}{C:Cy}{R:PS}{u:ag S}{d:aF}{e s bd:Bd}{ke ks K:D}{hasE hasS:aD}
theorem Sk{f:D}{b:E}{a:ag E}(k:(wE C b).1 L (λv=>oh C a L (λd=>C.call (.fn f) (v::d) Q)) h):(wE C (.ca (.c (.fn f)) (b::a))).1 L Q h:=k
theorem yI{e:E}{r:ag E}{Q:ag V->H->Prop}(k:(wE C e).1 L (λv=>oh C r L (λa=>Q (v::a))) h):oh C (e::r) L Q h:=k
theorem M6{o i:E}(k:(wE C o).1 L (λa=>(wE C i).1 L (λb h=>∃v,yw C.K h a b v/\Q v h)) h):(wE C (.sub o i)).1 L Q h:=k
theorem rj{t:ag D}(P:rq d=am)(E:hasE=am->jX X n b c 100 [.int (d-1)] e ke/\(e 3).1<=500)(S:hasS=am->jX X n b c 101 [.int (d-1)] s ks/\(s 3).1<=500)(a:JK e s ke ks hasE hasS bd K t=am):jX X (n+1) b c 99 [.str t,.int d] bd K:=by
 intro h k Q q l z;unfold JK at a;rw[aq,aq,aq,aq,bp,bp,bp] at a;refine i7 a λv _ _=>?_;rename_i C a;refine cv v λg F=>?_;refine cv g λA B=>?_;refine bQ _ rfl J (cZ (.eS .nil) ?_);have O:c<h.length:=by
  refine pC q λR m T M r=>?_
  exact j4 M
 refine FK (.vV (.lo J) .split (.cons .co .nil) (.split A (ac J)) (aa J)) (Pk (h0:=h) P O E S (Z:=Qq e s sY (lZ t 32)) (KZ:=k+K) (λj G f L x H i N y=>z j G f L x H i N (y.le C)) (ws:=[]) ((q.kp (Kp.push (o:= .list []))).kp (Kp.push (o:= .list ((lZ t 32).map V.str)))) (gC 0xd68042a000ae040 J a) l (bH lk) ?_ (aE _) (Kp.kb (Kp.push.trans .push)) lk .nil (by refine(?_ :0+_<=_);exact Vf B) F J);exact I au (cr (dc _))
theorem xZ{e:ag (ag D)}{m:D}(q:Bx h b c k)(l:k+(K+1)<=900)(g:h[m]? =some (.list (e.map .str)))(s:0<e.length/\e.length<=100)(a:∀t∈e,jX X (n+1) b c 99 [.str t,.int d] bd K)(z:∀j m i y,Bx j b c y->y<=k+(K+1)->Kb b h j->j[m]? =some (.list (i.map .str))->Pf bd i->Q (.ref m) j):cD (Cf X (n+1)) [.re (some (.ca (.c (.fn 99)) [.l 0,.sub (.l 2) (.ca (.c (.fn 98)) [.l 0,.ca (.c (.bi 0)) [.l 2]]),.l 1]))] [some (.ref b),some (.int d),some (.ref m)] (rt Q) h:=by
 refine fQ (Sk (Ev.lo (v:= .ref b) J _ (yI (M6 (Ev.lo (v:= .ref m) J _ (n9 (.cons (.lo J) (.cons (.bi (.cons (.lo J) .nil) (.list (show Look _ h (.ref m) _ from g) (I (aH ..) (az s.2 (ac J))))) .nil)) (I (aH ..) (vi q (dw 0xd5c80b02e7202e8a09040 J l) s.1 λp r o B f N=>aW (.str e[r]) (.list ((f m _ (q.ne g) g)) (fJ (I (aH ..) o) (I (aH ..) (az s.2 (ac J)))) (by refine I (dL) ?_;refine I (aI o) ?_;rfl)) (Ev.lo (C:=Cf X (n+1)) (v:= .int d) J _ (a _ (dh o) B (dw 0xd5c80ba01a0902e7202e8a09040 J l) λL F i H A G x M E=>z L F i H A (gC 0xd68a0908102ea02a09040 J G) (f.trans x) M E))))))))))
theorem uL{a:ag E}{ts:ag (ag D)}(e:a=ts.map λt=> .c (.str t)):mC C a L h (ts.map .str) h:=by
 subst e;induction ts with
 |nil=>exact .nil
 |cons t ts b=>exact .cons .co b
theorem vj{xs ys:ag (ag D)}{m:D}{i:D}{a:ag E}(b:L[i]? =ae (ae (.ref m)))(g:h[m]? =ae (.list (xs.map .str)))(e:a=ys.map λt=> .c (.str t))(l:(Y7 xs)+Y7 ys<=100):Ev C (.dy .Add (.l i) (.eS a)) L h (.ref (h++[O.list (ys.map .str)]).length) (h++[.list (ys.map .str)]++[.list ((xs++ys).map .str)]):=I fj (.dy (.lo b) (.eS (uL e)) (.yn (bH g) (lk) (I (aH ..) (I (aH ..) (az l (ac J))))))
theorem Du(a:∀t∈(if 0<d then JT++Jx++NC else JT),jX X (n+1) b c 99 [.str t,.int d] bd K):jX X (n+2) b c 100 [.int d] bd (K+1):=by
 intro h k Q q l z;refine bQ _ rfl J (cZ (.eS (uL (ts:=JT) J)) (m8 (.cj (.lo J) .co (.int J)) (λe=>?_) λe=>?_))
 ·rw[cw (aa e)] at a;exact cZ (vj (xs:=JT) (ys:=Jx) J lk J (ac J)) (cZ (vj (xs:=JT++Jx) (ys:=NC) J lk J (ac J)) (xZ (((((q.kp .push).kp .push).kp .push).kp .push).kp .push) l lk (aa J) a λj m g r i o f=>z j m g r i o ((Kp.kb ((((Kp.push.trans .push).trans .push).trans .push).trans .push)).trans f)))
 ·rw[bG (TS e)] at a;exact xZ (q.kp .push) l lk (aa J) a λj m g r i o f=>z j m g r i o ((Kp.kb .push).trans f)
theorem pR(a:∀t∈(if 0<d then E2++B8++E1++Jy else E2),jX X (n+1) b c 99 [.str t,.int d] bd K):jX X (n+2) b c 101 [.int d] bd (K+1):=by
 intro h k Q q l z;refine bQ _ rfl J (cZ (.eS (uL (ts:=E2) J)) (m8 (.cj (.lo J) .co (.int J)) (λe=>?_) λe=>?_))
 ·rw[cw (aa e)] at a;exact cZ (vj (xs:=E2) (ys:=B8) J lk J (ac J)) (cZ (vj (xs:=E2++B8) (ys:=E1) J lk J (ac J)) (cZ (vj (xs:=E2++B8++E1) (ys:=Jy) J lk J (ac J)) (xZ (((((((q.kp .push).kp .push).kp .push).kp .push).kp .push).kp .push).kp .push) l lk (aa J) a λj m g r i o f=>z j m g r i o ((Kp.kb ((((((Kp.push.trans .push).trans .push).trans .push).trans .push).trans .push).trans .push)).trans f))))
 ·rw[bG (TS e)] at a;exact xZ (q.kp .push) l lk (aa J) a λj m g r i o f=>z j m g r i o ((Kp.kb .push).trans f)
theorem FY(f:rq d=am)(a:¬0<d):jX X (n+2) b c 100 [.int d] HE 1:=λq l z=>Du (λt m=>rj (hasE:=ai) (hasS:=ai) (e:=sY) (s:=sY) (ke:=0) (ks:=0) f nofun nofun (aS.mp Ux t (by rwa [bG a] at m))) q l z
theorem MQ(g:rq d=am)(a:rq (d-1)=am)(f:¬0<d):jX X (n+4) b c 101 [.int d] Nd 2:=λq l z=>pR (λt m=>rj (hasE:=am) (hasS:=ai) (e:=HE) (s:=sY) (ke:=1) (ks:=0) g (λh=>⟨λq l z=>FY a (j5 0x39aab240ac8c80ac8 J f) q l z,aa J⟩) nofun (aS.mp UA t (by rwa [bG f] at m))) q l z
theorem RZ:jX X (n+6) b c 100 [.int 1] Q0 5:=λq l z=>Du (d:=1) (λt m=>rj (hasE:=am) (hasS:=am) (e:=HE) (s:=Nd) (ke:=1) (ks:=2) J (λa=>⟨λq l z=>FY (d:=0) J (aa J) q l z,aa J⟩) (λa=>⟨λq l z=>MQ (d:=0) J J (aa J) q l z,aa J⟩) (aS.mp Uw t (by rwa [cw (aa J)] at m))) q l z
theorem R1:jX X (n+6) b c 101 [.int 1] Q1 9:=λq l z=>pR (d:=1) (λt m=>rj (hasE:=am) (hasS:=am) (e:=HE) (s:=Nd) (ke:=1) (ks:=2) J (λa=>⟨λq l z=>FY (d:=0) J (aa J) q l z,aa J⟩) (λa=>⟨λq l z=>MQ (d:=0) J J (aa J) q l z,aa J⟩) (aS.mp Uz t (by rwa [cw (aa J)] at m))) q l z
theorem R0:jX X (n+8) b c 101 [.int 2] JU 38:=λq l z=>pR (d:=2) (λt m=>rj (hasE:=am) (hasS:=am) (e:=Q0) (s:=Q1) (ke:=5) (ks:=9) J (λa=>⟨λq l z=>RZ q l z,aa J⟩) (λa=>⟨λq l z=>R1 q l z,aa J⟩) (aS.mp Uy t (by rwa [cw (aa J)] at m))) q l z
end
noncomputable def dl(j:Fin 4):aF:=match j with
 |0=>2
 |1=>1
 |2=>11
 |3=>9
noncomputable def Bm(b:Bd):Bd:=λj=>((b j).2+dl j,(b j).2+dl j)
noncomputable def uc:ag (ag D):=[[40],[41],[44],[61],[101,110,100],[97],[46,46,46],[59],[98,114,101,97,107],[114,101,116,117,114,110],[58],[125],[100,111],[45],[49],[102,117,110,99,116,105,111,110]]
theorem M8:∀w∈eO,∀j,-U j w<=dl j:=by decide+kernel
theorem Ss:∀w∈uc,w∈eO/\∀j,U j w<=dl j:=by decide+kernel
theorem Jw:∀j,0<=dl j:=aa J
section
variable{X:Prop}{n b c k:D}{h s B u:H}{Q:P1}{L:bS}{C:Cy}{R:PS}{F:ag S}{bd:Bd}{ws a r xs ys:ag (ag D)}{w x:ag D}
theorem xN(v:∀w∈ws,w∈eO)(p:∀j k,su j (ws.take k)<=(bd j).2+dl j):Pf (Bm bd) ws:=⟨v,λj=>by
 have:=p j (Y7 ws);rw[Xd] at this;exact this,p⟩
theorem mU{α:Type}{a r:ag α}{k:D}(l:¬k<=a.length):(a++r).take k=a++r.take (k-a.length):=I By (I (bK (dw 0xd40071040 J l)) J)
theorem Pf.Eu(p:Pf bd (a++w::r)):Pf (Bm bd) (a++r):=by
 refine xN (λx m=>p.iK x ((dH.mp m).elim (λm=>ie _ m) λm=>dC _ (.tail _ m))) λj k=>?_;by_cases l:k<=a.length
 ·have:=p.pre j k;rw[nR l] at this⊢;exact JP 0xd6800206e081b80ac8 J (Jw j) this
 ·have:=p.pre j (k+1);rw[mU (dw 0xe01a09031040 J l),show k+1-a.length=(k-a.length)+1 by exact Ve l,ef,lY] at this;refine I (mU l) (I lY ?_);have:=M8 w (p.iK w (dC _ (.head _))) j;exact Pe 0xd68103a0202e12c06e0e8a02040 J ‹su j a+(U j w+su j (List.take (k-a.length) r))<=(bd j).snd› this
theorem Pf.ins(p:Pf bd (a++r))(m:x∈uc):Pf (Bm bd) (a++x::r):=by
 refine cv (Ss x m) λb c=>xN (λy m=>(dH.mp m).elim (λm=>p.iK y (ie _ m)) λm=>?_) λj k=>?_
 ·rcases aZ.mp m with m|m
  ·exact m▸b
  ·exact p.iK y (dC _ m)
 by_cases l:k<=a.length
 ·have:=p.pre j k;rw[nR l] at this⊢;exact JP 0xd6800206e081b80ac8 J (Jw j) this
 ·have:=p.pre j (k-1);refine I (mU l) (I (show k-a.length=(k-1-a.length)+1 by exact Vd l) (I ef (I lY (?_ :su j a+(U j x+su j (r.take (k-1-a.length)))<=_))));rw[By,bK (Vc l),lY] at this;exact Pe 0x35a040a8a010c0b840ee0a8040 J this (c j)
theorem Pf.XB(p:Pf bd (a++w::x::r)):Pf (Bm bd) (a++x::w::r):=by
 have vw:=p.iK w (dC _ (.head _));refine xN (λy m=>(dH.mp m).elim (λm=>p.iK y (ie _ m)) λm=>?_) λj k=>?_
 ·rcases aZ.mp m with m|m
  ·exact m▸(p.iK x (dC _ (.tail _ (.head _))))
  ·rcases aZ.mp m with m|m
   ·exact m▸vw
   ·exact p.iK y (dC _ (.tail _ (.tail _ m)))
 have b:=Jw j;by_cases l:k<=a.length
 ·have:=p.pre j k;rw[nR l] at this⊢;exact JP 0xd6800206e081b80ac8 J b this
 ·by_cases e:k=a.length+1
  ·refine I e ?_;have:=p.pre j (a.length+2);rw[mU (bO 0x38028280 J),show a.length+2-a.length=1+1 by exact Vb,ef,ef,pW,lY] at this;refine I (mU (λz=>Nat.not_succ_le_self _ z)) (I (show a.length+1-a.length=0+1 by exact Va) (I ef (I pW (I lY (?_ :su j a+(U j x+0)<=_)))));have:=M8 w vw j;exact Pe 0xd68103a28ac8080b84b01b83a28a2b202040 J ‹su j a+(U j w+(U j x+0))<=(bd j).snd› this
  ·have:=p.pre j k;rw[mU l,show k-a.length=(k-a.length-2)+1+1 from(T6 (Nat.le_sub_of_add_le (az (lS (tG 2 _)) (pV (gM l) (pr e))))).symm,ef,ef,lY] at this⊢;refine(?_ :su j a+(U j x+(U j w+su j (r.take (k-a.length-2))))<=_);exact Xy 0xd68005a28a0408306e168a28103081b80ac8 J b this
theorem Pf.bn(p:Pf bd ws):Pf (Bm bd) ws:=xN p.iK λj k=>by
 have:=p.pre j k;have:=Jw j;exact JP 0xd6808102e0ab22e040 J ‹su j (List.take k ws)<=(bd j).snd› this
theorem LV{α:Type}{xs:ag α}{k:D}:gN xs (ae (k:aF)) ax=xs.drop k:=by
 refine(?_ :(xs.drop (gu (Y7 xs) k)).take (Y7 xs-gu (Y7 xs) k)=_);refine I lF (I (bK (I bM (aE _))) ?_);by_cases l:k<=(Y7 xs)
 ·exact I (eI l) J
 ·exact I (mR (dw 0xd40071040 J l)) (I (eN (aE _)) (I (eN (dw 0xd40071040 J l)) J))
theorem LU{α:Type}{xs:ag α}{k j:D}:gN xs (ae (k:aF)) (ae ((k+j:D):aF))=(xs.drop k).take j:=by
 refine(?_ :(xs.drop (gu (Y7 xs) k)).take (gu (Y7 xs) ((k+j:D):aF)-gu (Y7 xs) k)=_);refine I lF (I lF ?_);by_cases l:k<=(Y7 xs)
 ·refine I (eI l) ?_;by_cases b:k+j<=(Y7 xs)
  ·exact I (eI b) (I (cV ..) J)
  ·exact I (mR (gC 0xd680400b10a8040 J b)) (I (bK (I bM (aE _))) (I (bK (I bM (U9 b))) J))
 ·exact I (mR (a:=k) (dw 0xd40071040 J l)) (I (eN (aE _)) (I (eN (dw 0xd40071040 J l)) (I kH (I kH J))))
def Ew(C:Cy)(e:E)(L:bS)(h:H)(ws:ag (ag D)):Prop:=∃p s,Ev C e L h (.ref p) s/\Kp h s/\s[p]? =ae (.list (ws.map .str))
theorem Ew.yn{a b:E}(x:Ew C a L h xs)(y:∀s,Kp h s->Ew C b L s ys)(l:(Y7 xs)+Y7 ys<=10000):Ew C (.dy .Add a b) L h (xs++ys):=by
 refine pC x λp B i d f=>?_;exact pC (y B d) λq u g c e=>nT (Y7 u) _ (.dy i g (.yn (c _ _ f) (e) (I (aH ..) (I (aH ..) (az l (ac J)))))) ((d.trans c).trans .push) (I lk (I fj J))
section
variable{m i:D}(A:L[i]? =ae (ae (.ref m)))(g:h[m]? =ae (.list (ws.map .str)))(ln:(Y7 ws)<=3000)
include A g ln
theorem F9{d:E}{k:D}(e:Ev C d L h (.int k) h)(l:k<=Y7 ws):Ew C (.hO (.l i) ax (ae d)) L h (ws.take k):=nT h.length _ (.BN (.lo A) e (.list (g) J J (I (aH ..) (az ln (ac J))))) .push (I lk (I (Bj (I (aH ..) l)) (I qS J)))
theorem F8{d:E}{k:D}(e:Ev C d L h (.int k) h):Ew C (.hO (.l i) (ae d) ax) L h (ws.drop k):=nT h.length _ (.Nk (.lo A) e (.list (g) J J (I (aH ..) (az ln (ac J))))) .push (I lk (I LV (I J6 J)))
theorem Hs{d f:E}{k j:D}(e:Ev C d L h (.int k) h)(a:Ev C f L h (.int ((k+j:D):aF)) h):Ew C (.hO (.l i) (ae d) (ae f)) L h ((ws.drop k).take j):=nT h.length _ (.hO (.lo A) e a (.list (g) J J (I (aH ..) (az ln (ac J))))) .push (I lk (I LU (I qS (I J6 J))))
end
theorem Qy{e:E}{Q:P1}(x:Ew C e L h ws)(z:∀p s,Kp h s->s[p]? =ae (.list (ws.map .str))->Q (.ref p) s):cD C [.re (ae e)] L (rt Q) h:=by
 refine pC x λp s b a g=>?_;exact cJ b (z p s a g)
theorem lm{n:D}(l:n<=3000):n+n<=10000/\n+1<=10000/\n+1+1<=10000/\n+1+1+n<=10000:=(qG (bO 0xd5865f2a8000ba08d3033 J l) (bO 0x356197caa0902e8234c0 J l) (bO 0x356197caa09a0902e8234c0 J l) (bO 0xd5865f2a8028268240ba08d3033 J l))
theorem Pn{m:D}(q:Bx h b c k)(l:k<=890)(g:h[m]? =some (.list (ws.map .str)))(l0:0<Y7 ws)(ln:(Y7 ws)<=3000)(p:Pf bd ws)(z:∀s m' y k',Bx s b c k'->k'<=k+3->Kb b h s->s[m']? =some (.list (y.map .str))->Pf (Bm bd) y->Q (.ref m') s):P.call ai X (n+2) (.fn 102) [.ref b,.ref m] Q h:=by
 refine bQ _ rfl J (Mz (n9 (.cons (.lo J) (.cons (.bi (.cons (.lo J) .nil) (.list (show Look _ h (.ref m) _ from g) (I (aH ..) (az ln (ac J))))) .nil)) (I (aH ..) (vi q (bO 0xd5c80b02e89f2c0 J l) l0 λB r L q1 af x_=>n9 (.cons (.lo J) (.cons .co .nil)) (vi (w:=3) q1 (bO 0xd5c80ba0902e89f2c0 J l) (ac J) λu f lf q2 Z x_=>(bQ _ lk J ?_))))))
 have U:=(af.trans Z).trans (Kp.kb (.push (o:= .bq [.int (r:D),.int (f:D)])))
 have T:=q2.kp (.push (o:= .bq [.int (r:D),.int (f:D)]))
 generalize u++[O.bq [.int (r:D),.int (f:D)]]=h3 at U T⊢
 have M:=U m _ (q.ne g) g
 have W:ws=ws.take r++ws[r]::ws.drop (r+1):=by refine I (aQ (dS L)) ?_;refine I (cI ..) ?_;rfl
 have C:∀{h:H} {j:D} {o4:av V},j<=2->Ev (Cf X (n+1)) (.dy .Add (.l 2) (.c (.int (j:D)))) [some (.ref b),some (.ref m),some (.int (r:D)),some (.int (f:D)),o4] h (.int ((r+j:D):aF)) h:=λK=> .dy (.lo J) .co (.int (jt (dU (dw 0x356227a0241bc006e8234c0 J ln L)) (dU (bO 0xd5889e80902e280 J K))))
 have v:∀{y:ag (ag D)} {e:E},Ew (Cf X (n+1)) e [some (.ref b),some (.ref m),some (.int (r:D)),some (.int (f:D)),none] h3 y->Pf (Bm bd) y->cD (Cf X (n+1)) [.re (some e)] [some (.ref b),some (.ref m),some (.int (r:D)),some (.int (f:D)),none] (rt Q) h3:=λx Y=>Qy x λp s d g'=>z s p _ _ (T.kp d) (bO 0x35a0b028268240 J) (U.trans d.kb) g' Y
 have G:∀{a:D} {t:aD},((f:aF)==(a:aF))=t->Et (Cf X (n+1)) (.cj .Eq (.l 3) (.c (.int (a:D)))) [some (.ref b),some (.ref m),some (.int (r:D)),some (.int (f:D)),none] h3 t h3:=λe=> .cj (.lo J) .co (.int (aL some e))
 by_cases f0:f=0
 ·revert C v G;refine I f0 λC v G=>bT (G (a:=0) J) (v (Ew.yn (F9 J M ln (.lo J) (fh L)) (λs d=>F8 J (d _ _ M) ln (C (j:=1) (ac J))) ?_) ?_)
  ·exact I bE (I bM (az (gS (d9 _ _) (jJ _ _)) (lm ln).1))
  ·rw[W] at p
   exact p.Eu
 refine bm (G (a:=0) (aK.mpr (U8 f0))) ?_
 by_cases f1:f=1
 ·revert C v G;refine I f1 λC v G=>bT (G (a:=1) J) (v (Ew.yn (Ew.yn (Ew.yn (F9 J M ln (.lo J) (fh L)) (λs d=>Hs (k:=r+1) (j:=1) J (d _ _ M) ln (C (j:=1) (ac J)) (C (j:=2) (ac J))) ?_) (λs d=>Hs (k:=r) (j:=1) J (d _ _ M) ln (.lo J) (C (j:=1) (ac J))) ?_) (λs d=>F8 (k:=r+2) J (d _ _ M) ln (C (j:=2) (ac J))) ?_) ?_)
  ·exact I bE (I bE (I bM (az (gS (d9 _ _) (fP _ _)) (lm ln).2.1)))
  ·exact I au (I bE (I bE (I bE (I bM (I bM (az (gS (gS (d9 _ _) (fP _ _)) (fP _ _)) (lm ln).2.2.1))))))
  ·exact I au (I au (I bE (I bE (I bE (I bM (I bM (I bM (az (gS (gS (gS (d9 _ _) (fP _ _)) (fP _ _)) (jJ _ _)) (lm ln).2.2.2))))))))
  ·refine I (dS L) (I ef (I pW ?_))
   by_cases N:r+1<(Y7 ws)
   ·have e2:=W
    rw[dS N] at e2
    refine I (dS N) (I ef (I pW (I (a7 ..) (I (a7 ..) ?_))))
    rw[e2] at p
    exact p.XB
   ·rw[eN (dw 0xd68240072068240 J N)] at W
    exact I (eN (i:=r+1) (dw 0xd68240072068240 J N)) (I kH (I (bz ..) (I (eN (dw 0xd68280072068240 J N)) (I (bz ..) (I (aQ W) p.bn)))))
 refine bm (G (a:=1) (aK.mpr (U7 f1))) (cN (M6 (Ev.eS (uL (ts:=uc) J) _ (n9 (.cons (.lo J) (.cons .co .nil)) (vi (w:=16) (T.kp .push) (bO 0xd5c80ba09a0902e89f2c0 J l) (ac J) λh4 j K q4 S x_=>?_)))))
 have K:=K
 refine aW (.str uc[j]) (.list ((S _ _ ((T.kp (.push (o:= .list (uc.map .str)))).ne (ws:=uc) lk) lk)) (fJ (I (aH ..) K) (ac J)) (by refine I (dL) ?_;refine I (aI K) ?_;rfl)) ?_
 have R:=U.trans ((Kp.kb .push).trans S)
 have g4:=R m _ (q.ne g) g
 refine Qy (ws:=ws.take r++[uc[j]]++ws.drop r) (Ew.yn (Ew.yn (F9 J g4 ln (.lo J) (fh L)) (λs d=>(nT (Y7 s) _ (.eS (.cons (.lo J) .nil)) .push lk)) ?_) (λs d=>F8 J (d _ _ g4) ln (.lo J)) ?_) ?_
 ·refine I bE (?_ :_+1<=10000);exact U6 ln
 ·refine I au (I bE (I bM (?_ :_+1+_<=10000)));exact U5 ln
 ·intro Y s d g'
  refine z s Y _ _ (q4.kp d) (bO 0x35a0b028268268240 J) (R.trans d.kb) g' (I (a7 ..) ?_)
  rw[<-cI r ws] at p
  exact p.ins (dh K)
end
noncomputable def wu:Bd:=JA JU JU
noncomputable def qA:Bd:=Bm (Bm wu)
theorem BE:∀w∈eO,(∀a∈w,a<256)/\xc (fO w).1=am/\(fO w).1∈VK/\(fO w).1≠287/\(fO w).1≠287:=by decide+kernel
noncomputable def Tc(w:ag D):aD:=match w with
 |[]=>ai
 |a::r=>((a::r).all λz=>lt (z:D))&&decide (r.length<=90)&&(match dp (.bytes (a::r)) fk with
  |none=>am
  |some (.int _)=>am
  |_=>ai)
noncomputable def S9(w:ag D):aD:=match w with
 |[a]=> !([34,39,91,46,45,61,60,62,126,10,13].contains (a:aF))&& !dg a&& !lt a&& !bl a&&decide ((fO [a]).1=a)&&(match(fO [a]).2 with| .none=>am|_=>ai)
 |_=>ai
theorem Uf{w:ag D}(e:Tc w=am):Wk w (fO w).1 (fO w).2:=by
 unfold Tc at e;induction w with
 |nil=>exact ft e
 |cons a r=>
  rw[aq,aq] at e;refine cv e λb c=>?_;refine cv b λf g=>?_;refine .Jg (λz m=>aS.mp f z m) (aa g) J ?_;unfold fO;cases d:dp (.bytes (a::r)) fk with
  |none=>exact .inl ⟨rfl,by exact dG f (⟨rfl,rfl⟩)⟩
  |some v=>
   rw[d] at c;induction v with
   |int k=>exact .inr ⟨rfl,rfl⟩
   |_=>exact ft c
theorem Ue{w:ag D}(e:S9 w=am):Wk w (fO w).1 (fO w).2:=by
 match w,e with
 |[a],e=>
  unfold S9 at e;rw[aq,aq,aq,aq,aq,bc,bc,bc,bc,bp] at e;refine cv e λf h=>?_;refine cv f λd i=>?_;refine cv d λc j=>?_;refine cv c λb k=>?_;refine cv b λm l=>?_;have g:(fO [a]).2= .none:=by
   revert h
   cases(fO [a]).2<;>first|exact λn=>rfl|exact nofun
  exact I i (I g (.cA m l k j))
theorem N0:∀w∈eO,Wk w (fO w).1 (fO w).2:=by
 intro w m;rcases(show∀w∈eO,Tc w=am\/S9 w=am\/w∈[[39,115,39],[91],[46],[46,46],[46,46,46],[49],[45],[61],[61,61]] by decide+kernel) w m with e|e|e
 ·exact Uf e
 ·exact Ue e
 ·have e:w=[39,115,39]\/w=[91]\/w=[46]\/w=[46,46]\/w=[46,46,46]\/w=[49]\/w=[45]\/w=[61]\/w=[61,61]:=by
   simpa only [aZ,fX,vH] using e
  rcases e with rfl|rfl|rfl|rfl|rfl|rfl|rfl|rfl|rfl
  ·exact .str
  ·exact .brk
  ·exact .io 0 (ac J)
  ·exact .io 1 (ac J)
  ·exact .io 2 (ac J)
  ·exact .dY
  ·exact .FV
  ·exact .eq
  ·exact .TJ
section
variable{aw:ag iQ}
theorem uU{i:D}(l:(Y7 aw)<=i):(tk aw i).1=287:=by
 unfold tk;refine I (dF l) ?_;rfl
theorem yy{j:Fin 4}{u:aF->aF}(b:∀w,U j w=u (fO w).1)(a:u 287=0):∀i,su j ((aw.map (·.1)).take (i+1))=su j ((aw.map (·.1)).take i)+u (tk aw i).1:=λi=>by
 by_cases l:i<(Y7 aw)
 ·refine I zX (I lY (I (dL) ?_));refine I (aI l) ?_;refine(?_ :_+(U j aw[i].1+0)=_);refine I (dT ..) (I (b ..) ?_);congr 2;unfold tk;refine I (aI l) ?_;rfl
 ·exact I (uU (fB l)) (I a (I (dT ..) (I (bK (I (aH ..) (dw 0xd68240072040 J l))) (I (bK (I (aH ..) (dw 0xd40072040 J l))) J))))
theorem HR:((cm aw).length:aF)=su 3 (aw.map (·.1)):=by
 unfold cm;induction aw with
 |nil=>rfl
 |cons r a b=>
  refine I Wg (I au (I im (I bv (?_ :_=1+(r.1.length:aF)+su 3 (a.map (·.1))))));exact I (aQ b) (dw 0x37a2b068ac0ac9ae8068240 J)
variable(p:Pf qA (aw.map (·.1)))
include p
theorem rm:∀r∈aw,r.1∈eO:=λr m=>p.iK _ (S4 m)
theorem yH:(Y7 aw)<=1000:=by
 have:=p.len;rw[aH] at this;exact mN 0x358262c0bab8262c1b81ac0 J ‹↑(Y7 aw)<=(qA 3).fst› (show(qA 3).1<=1000 by decide+kernel)
theorem Hn:oW aw:=by
 have v:=rm p
 refine⟨λr m=>N0 _ (v r m),λr m=>(BE _ (v r m)).1,?_,az (yH p) (ac J),λr m=>(BE _ (v r m)).2.1⟩
 have:=HR (aw:=aw)
 have:=p.A6 3
 have:(qA 3).1<=1000:=by decide+kernel
 exact Bi 0x3581d8c902eae098b0ae081c01ac0 J ‹↑(cm aw).length=su 3 (List.map (λx=>x.fst) aw)› ‹su 3 (List.map (λx=>x.fst) aw)<=(qA 3).fst› this
theorem Ho:Rn (gr aw) 76:=by
 refine⟨λi=>?_,az (yH p) (ac J),λi l=>uU l⟩;have e:∀i,ky (gr aw) i=su 2 ((aw.map (·.1)).take i):=λi=>by
  induction i with
  |zero=>rfl
  |succ i a=>
   exact I (yy (u:=JJ) (λb=>rfl) J i) (I (aQ a) J)
 exact I (e ..) (f9 (p.pre 2 i) (by decide+kernel))
theorem LN{r:Rl}{B:D->aD}{f:Fg}{i:D}(l:i<=Y7 aw):∃n c,pg (gr aw) n B f r i=ae c/\FD (gr aw) (mM r) (ky (gr aw) i+EQ r) i c:=aM (Hb (Ho p) (rk r+1+76-ky (gr aw) i).toNat B f r i l (Int.self_le_toNat _)) λc a b=>dO _ c a b
theorem LJ{g k:D}:oA (pc aw g k):=by
 refine⟨λi=>?_,λi=>?_,λi=>?_,λr B f i l=>?_⟩
 ·have e:∀i,(pc aw g k).sD i=su 0 ((aw.map (·.1)).take i):=λi=>by
   induction i with
   |zero=>rfl
   |succ i d=>
    exact I (yy (u:=wD) (λh=>rfl) J i) (I (aQ d) J)
  exact I (e ..) (f9 (p.pre 0 i) (by decide+kernel))
 ·have e:∀i,(pc aw g k).sM i=su 1 ((aw.map (·.1)).take i):=λi=>by
   induction i with
   |zero=>rfl
   |succ i d=>
    exact I (yy (u:=wM) (λh=>rfl) J i) (I (aQ d) J)
  exact I (e ..) (f9 (p.pre 1 i) (by decide+kernel))
 ·refine(?_ :(tk aw i).1∈VK);by_cases l:i<(Y7 aw)
  ·unfold tk;refine I (aI l) ?_;exact(BE _ ((rm p) _ (dh l))).2.2.1
  ·exact I (uU (fB l)) (aa J)
 ·exact cY (LN p (r:=r) (B:=B) (f:=f) l) λn c a b=>aW c ⟨n,a⟩ (λj e m=>(b j e).2.2.1 m)
theorem LL{i:D}(l:i<=Y7 aw)(e:(tk aw i).1=287):i=(Y7 aw):=by
 apply Jf;intro b;have a:=U4 l b;unfold tk at e;rw[aI a] at e;exact(BE _ ((rm p) _ (dh a))).2.2.2.1 e
theorem LK:∃c,pg (gr aw) 91 (bh aw) ⟨ai,true⟩ .block 0=ae c:=aM (Hb (Ho p) 91 (bh aw) ⟨ai,true⟩ .block 0 (bU _) (show rk .block+1+76-(0:aF)<=91 by decide)) λc a b=>⟨c,a⟩
end
section
variable{n b c k:D}{h d f e:H}{Q:PS}{C:Cy}
theorem Sl{c:Operator}{l r:E}{L:bS}{Q:P1}(k:(wE C l).1 L (λa=>(wE C r).1 L (λb h=>∃v d,tA C.K h c a b v d/\Q v d)) h):(wE C (.dy c l r)).1 L Q h:=k
noncomputable abbrev lL(v:V)(m:D)(h g c b a:av V):bS:=[some v,some (.ref m),h,g,c,b,a]
noncomputable def bW:D->Bd
 |0=>wu
 |1=>JU
 |_=>sY
noncomputable def bV:D->Bd
 |0=>qA
 |1=>Bm wu
 |_=>wu
theorem LZ:∀j,j<2->EJ (JA (bW (j+1)) JU) (bW j)=am:=by decide+kernel
theorem PN:∀j,j<3->EJ sY (bW j)=am:=by decide+kernel
theorem L1:∀j,j<2->EJ (Bm (bV (j+1))) (bV j)=am/\EJ (bV (j+1)) (bV j)=am:=by decide+kernel
theorem PO:∀j,j<3->EJ wu (bV j)=am:=by decide+kernel
theorem HD:∀j,j<3->((bW j) 3).1<=1000/\((bV j) 3).1<=1000:=by decide+kernel
theorem A7{w:D}{L:bS}{Q:P1}(q:Bx h 3 c k)(l:k<=900)(a:0<w)(z:∀d (r:D),r<w->Bx d 3 c (k+1)->Kb 3 h d->Y7 d=h.length->Q (.int r) d):(wE (Cf bA (n+1)) (BI (w:D))).1 L Q h:=n9 (.cons .co (.cons .co .nil)) (vi q l a z)
theorem Ki{v:V}{y x w u:av V}(z:∀d m a B b,Bx d 3 c B->B<=80->d[m]? =ae (.list (a.map .str))->Pf wu a->Q .next (lL v m b y x w u) d):∀(j i:D) (h:H) (m k:D) (a:ag (ag D)) (b:av V),j<3->Bx h 3 c k->k+38*j<=80->h[m]? =ae (.list (a.map .str))->Pf (bW j) a->A5 (Cf bA (n+8)) 2 QM Q j i (lL v m b y x w u) h:=by
 intro r;induction r with
 |zero=>
  intro i h m k a b A q l g p;exact z h m a k b q (bO 0x3560d02e60da2921e280 J l) g p
 |succ j K=>
  intro i h m k a b A q l g p;exact cN (Ev.lo (C:=Cf bA (n+8)) (v:= .ref m) J _ (n9 (.cons .co (.cons .co .nil)) (R0 q (dw 0x357202e878a02e60da29a0905e280 J l) λe M o G E F s L t=>dO _ _ (.yn (xs:=a.map .str) (ys:=o.map .str) (s m _ (q.ne g) g) (L) (by refine I (aH ..) (I (aH ..) ?_);exact MV 0x356227a0268040bab8262c3bab8262c2b83ac1b82ac0 J p.len t.len ((HD (j+1) A).1) ((aa J):(JU 3).1<=1000))) (I (aQ fj) (K (i+1) _ _ G (a++o) _ (U2 l) (E.kp .push) (gC 0xd58368a4178a0aea1e2800ae60da29a0905e280 J l F) lk ((p.ii t).le (LZ j (U1 l))))))))
theorem w2{v:V}{m:D}{b o l k j:av V}(q:Bx h 3 c 0)(g:h[m]? =ae (.list []))(z:∀d m i t b,Bx d 3 c t->t<=80->d[m]? =ae (.list (i.map .str))->Pf wu i->Q .next (lL v m b o l k j) d):(wE (Cf bA (n+8)) Tv).1 (lL v m b o l k j) (λu h=>∃p:D,u= .int p/\p<=1000/\A5 (Cf bA (n+8)) 2 QM Q p 0 (lL v m b o l k j) h) h:=by
 refine Sl (Ev.co (C:=Cf bA (n+8)) (v:= .int 1) _ (A7 (n:=n+7) (w:=2) q (ac J) (ac J) λe r a x s y=>⟨.int ((1+r:D):aF),_,.int ?_,1+r,rfl,bO 0xd6098ba0026f280 J a,?_⟩))
 ·exact I (jt J (dU (bO 0xd5889e80902f280 J a))) (aL ae (bO 0xdeba00268ac0ac9 J))
 ·exact Ki z (1+r) 0 e m 1 [] _ (bO 0xd8ba0026f280 J a) x (U0 a) (s m _ (q.ne (ws:=[]) g) g) (Pf.nil.le (PN (1+r) (bO 0xd8ba0026f280 J a)))
theorem Kh{v:V}{L K G F:av V}(z:∀d m b x s,Bx d 3 c x->x<=100->d[m]? =ae (.list (b.map .str))->Pf qA b->Q .next (lL v m s L K G F) d):∀(j i:D) (h:H) (m k:D) (b:ag (ag D)) (s:av V),j<3->Bx h 3 c k->k+3*j<=100->h[m]? =ae (.list (b.map .str))->Pf (bV j) b->A5 (Cf bA (n+8)) 2 QL Q j i (lL v m s L K G F) h:=by
 intro u;induction u with
 |zero=>
  intro i h m k b s t q l g p;exact z h m b k s q (bO 0xd5c380b9c3a8a482c0 J l) g p
 |succ j M=>
  intro i h m k b s t q l g p;have a:=p.len;have B:=L1 j (bO 0xd8a02f2e8240 J t);have E:=q.kp (Kp.push (o:= .list []));have A:=Kp.push (o:= .list []) _ _ g;refine cN (Et.cj (C:=Cf bA (n+8)) (.lo J) (.eS .nil) (.QG A lk (λp m=>by rw[yO] at m;cases m)) _ ?_);cases b with
  |nil=>
   exact cM (aa J) (Ev.lo (C:=Cf bA (n+8)) (v:= .ref m) J _ (M (i+1) _ m k [] _ (bO 0xd8b02f2e8240 J t) E (dw 0xd5c3a8a412c0b9c3a8a682412c0 J l) A (p.le B.2)))
  |cons w r=>
   exact dG (by rfl) (n9 (.cons .co (.cons (.lo J) .nil)) (Pn (n:=n+6) E (dw 0x3589f2c0b9c3a8a682412c0 J l) A (NP _) (mN 0x358234c0b81ac0bab8262c1 J ((HD (j+1) t).2) a) p λd P y x N R S T O=>M (i+1) _ P x y _ (bO 0xd8b02f2e8240 J t) N (gC 0x3570ea2904b0aea0b002b9c3a8a682412c0 J l R) T (O.le B.1)))
theorem w3{v:V}{m:D}{a:ag (ag D)}{b t s o j:av V}(q:Bx h 3 c k)(l:k<=80)(g:h[m]? =ae (.list (a.map .str)))(p:Pf wu a)(z:∀d m a y b,Bx d 3 c y->y<=100->d[m]? =ae (.list (a.map .str))->Pf qA a->Q .next (lL v m b t s o j) d):(wE (Cf bA (n+8)) Tu).1 (lL v m b t s o j) (λA h=>∃u:D,A= .int u/\u<=1000/\A5 (Cf bA (n+8)) 2 QL Q u 0 (lL v m b t s o j) h) h:=
 A7 (n:=n+7) (w:=3) q (bO 0x357202c0b98340 J l) (ac J) λe r i B x C=>(bQ r J (bO 0xd6098b02f2c0 J i) (Kh z r 0 e m (k+1) a _ (bO 0xd8b02f2c0 J i) B (dw 0x3570ea2904ba0902f2c1cf3b98340 J l i) (x m _ (q.ne g) g) (p.le (PO r i))))
end
section
variable{n c k:D}{h a f d:H}{Q:P1}
theorem dA.Uo{N:D}{i:ag iQ}(q:dA h (.ref N) i){w:ag D}{b:aD}{k:ag V}(g:h[N]? =ae (.list k)):dA ((h++[O.bq [.str w,.bool b]]).set N (O.list (k++[V.ref h.length]))) (.ref N) (i++[(w,b)]):=by
 refine uS q λR u e o m z=>?_;cases e;cases g.symm.trans o;have n:=j4 g;have c:∀{t:D} {x:ag V},(h++[O.bq [.str w,.bool b]])[t]? =ae (.bq x)->((h++[O.bq [.str w,.bool b]]).set N (O.list (k++[V.ref h.length])))[t]? =ae (.bq x):=λ{t x} e=>by
  rewrite(config:={}) [fC λy=>?_]
  ·exact e
  ·revert e;refine sb y λe=>?_;rw[bF n,g] at e;cases e
 refine tV N _ rfl (fN (show N<(h++[O.bq [.str w,.bool b]]).length by exact I au (Nat.lt_add_right _ n))) (I au (I au (I m J))) (λj r e=>?_);by_cases l:j<(Y7 i)
 ·rw[bF l] at e;exact aM (z j r e) λt s p=>aW t (by rewrite(config:={}) [bF (m▸l)];exact s) (c (bH p))
 ·rw[cF (fB l)] at e;have:j=(Y7 i):=by
   have:j-Y7 i<1:=((aY.mp e).1)
   exact UZ l this
  revert e;refine I this λe=>?_;rw[je] at e;refine sb (si e) (aW h.length ?_ (c lk));refine I (aQ m) (I (bD) ?_);rfl
theorem Kg{m N:D}{b:ag (ag D)}(l0:(Y7 b)<=1000)(W:N≠3)(nc:N≠c)(nm:N≠m)(z:∀a s k',Bx a 3 c k'->dA a (.ref N) s->s.map (·.1)=b->Q (.ref N) a):∀(r:ag (ag D)) (h:H) (k:D) (p:ag iQ),Bx h 3 c k->k+r.length<=900->h[m]? =ae (.list (b.map .str))->dA h (.ref N) p->p.map (·.1)++r=b->DX P.K (.ref m) (b.map .str) (f4 (Cf bA (n+1))) N Q (r.map .str) h:=by
 intro B;induction B with
 |nil=>
  intro h k p q l g F e;exact⟨g,z h p k q F (I (aQ e) (I (bz ..) J))⟩
 |cons w r ih=>
  intro h k p q l g F e;rw[bv] at l;refine⟨g,M5 (yI (Ev.lo (C:=Cf bA (n+1)) (v:= .str w) J _ (yI (A7 (n:=n) (w:=5) (L:=[ae (.str w)]) q (dw 0xd5c80b02e7202e8a09040 J l) (ac J) λd t lt q2 u Z=>aW ((t:aF)==0) (.int J) ?_))))⟩;have A:dA d (.ref N) p:=by
   refine uS F λR E e S G y=>?_
   cases e
   refine tV N E J (u _ _ W S) G (λi r e=>?_)
   refine aM (y i r e) λt e1 T=>?_
   refine aW t e1 (u _ _ (λe3=>?_) T)
   refine cY q λU X M Z=>?_
   rw[e3,M] at T
   cases T
  obtain⟨x,Y,ly⟩:∃x,d[N]? =ae (.list x)/\Y7 x=(Y7 p):=by
   refine uS A λR E e S G y=>?_;cases e;exact aW E S G
  have lr:(Y7 p)<=1000:=by
   have:=aL Y7 e
   rw[au,aH] at this
   exact gC 0x358262c1c00a0206e8262c0 J l0 this
  refine bQ x (bH Y) (I ly (az lr (ac J))) ?_;have j:∀(i:D) o,i≠N->d[i]? =ae o->((d++[O.bq [.str w,.bool ((t:aF)==0)]]).set N (O.list (x++[V.ref (Y7 d)])))[i]? =ae o:=λi o ne g=>by
   refine I (fC λe=>ne e.symm) ?_;exact bH g
  refine ih _ (k+1) (p++[(w,(t:aF)==0)]) ?_ (dw 0xd5c80ba01a0902e7202e8a09040 J l) (j m _ nm.symm (u m _ (q.ne g) g)) (A.Uo Y) (I fj (I (a7 ..) e));refine pC q2 λU X M gs rr=>?_;exact nT U X (j _ _ W.symm M) (j _ _ nc.symm gs) rr
theorem w4{m:D}{j:ag (ag D)}{L:bS}(q:Bx h 3 c k)(l:k<=100)(p:(Y7 j)<=800)(y:L[1]? =ae (ae (.ref m)))(g:h[m]? =ae (.list (j.map .str)))(z:∀N a b x,Bx a 3 c x->dA a (.ref N) b->b.map (·.1)=j->Q (.ref N) a):rS P.K (wE (Cf bA (n+1)) (.l 1)).1 (f4 (Cf bA (n+1))) L Q h:=Ev.lo (C:=Cf bA (n+1)) y _ ⟨j.map .str,Kg (bO 0xd6098b02e61a2c0 J p) (fM (show 3<h.length by refine pC q λu w t s v=>?_;exact j4 t)) (fM (show c<h.length by refine pC q λu w t s v=>?_;exact j4 s)) (fM (j4 g)) (z h.length) j _ k [] (q.kp (Kp.push (o:= .list []))) (dw 0xd5c80ba0102e61a2c1b9c380 J l p) (Kp.push _ _ g) (tV _ ([]) J lk J (λi r e=>nomatch e)) J⟩
end
section
variable{n c k:D}{h d f i:H}{Q:P1}{aw:ag iQ}
theorem Kf{N:D}{p:ag V}(gx:f[N]? =some (.list p)):∀{j:ag V} {rs:ag iQ} {h:ag V},Al f j rs->Y7 h+Y7 rs<=dW->(∀r∈rs,r.1.length<=10000)->Q (.ref (Y7 f)) (f++[.list (h++(rs.map λr=>iM r::r.1).map .str)])->DX P.K (.ref N) p (f5 (Cf bA n)) (Y7 f) Q j (f++[.list h]):=by
 intro j;induction j with
 |nil=>
  intro rs;cases rs with
  |nil=>exact λa l s k=>⟨bH gx,by rw[zZ,zZ,bz] at k;exact k⟩
  |cons r rs=>exact λa=>nomatch a.1
 |cons v j q=>
  intro rs;cases rs with
  |nil=>exact λa=>nomatch a.1
  |cons r rs=>
   intro h a l s k;refine aM (a.2 0 r J) λt e g=>?_;revert a;refine I (si e) λa=>?_;rw[bv] at l;refine⟨bH gx,[.str r.1,.bool r.2],bH g,rfl,?_⟩;have o:Ev (Cf bA n) (.jP (.l 1) (.c (.str [10])) (.c (.str [32]))) [some (.str r.1),some (.bool r.2)] (f++[O.list h]) (.str [iM r]) (f++[O.list h]):=by
    unfold iM
    cases b:r.2 with
    |true=>exact .TC (.of J (.lo J) J) .co
    |false=>exact .jC (.of J (.lo J) J) .co
   exact Ev.dy (op:= .Add) o (.lo J) (.str (by refine(?_ :1+r.1.length<=dW);exact bO 0x356227a0268009b9865f280 J (s r (.head _)))) _ (bQ h lk (gC 0xd4202e0a8a09040 J l) (I (show(f++[O.list h]).set (Y7 f) (.list (h++[.str ([iM r]++r.1)]))=f++[.list (h++[.str ([iM r]++r.1)])] by exact I (uu _ _ (aE _)) (I (je ..) J)) (q ⟨lR a.1,λk r e=>a.2 (k+1) r e⟩ (by refine I au (?_ :(Y7 h)+1+_<=_);exact gC 0xd42a01a0902e0a8a09040 J l) (λr m=>s r (.tail _ m)) (I (a7 ..) k))))
theorem D4:(aw.map λr=>iM r::r.1).flatten=cm aw:=(List.flatMap_def ..).symm
theorem w5{L:bS}{v:V}(c:L[3]? =ae (ae v))(q:dA h v aw)(l:(cm aw).length<=10000)(z:∀d,Kp h d->Q (.str (cm aw)) d):rS P.K (wE (Cf bA n) (.l 3)).1 (f5 (Cf bA n)) L (λv h=>∃b:ag (ag D),Look P.K h v (.list (b.map .str))/\b.flatten.length<=dW/\Q (.str b.flatten) h) h:=by
 revert c;refine hV v q λN s a=>λc=>?_;clear q;refine i7 a λg k p=>?_;clear a;have e:(Y7 aw)<=(cm aw).length/\∀r∈aw,r.1.length<=(cm aw).length:=by
  unfold cm
  clear l z p k
  induction aw with
  |nil=>exact⟨aE _,nofun⟩
  |cons r t o=>
   refine I Wg (I au (I bv (I bv (⟨gC 0xd68068242a0902e040 J o.1,λx m=>?_⟩))));rcases aZ.mp m with rfl|m
   ·exact dw 0x35a01a09000 J
   ·exact gC 0xd6806824202e040 J (o.2 x m)
 have j:=D4 (aw:=aw);refine Ev.lo (C:=Cf bA n) c _ ⟨s,Kf (rs:=aw) g ⟨k,p⟩ (by refine(?_ :0+_<=dW);exact dw 0xd5889e809a0122e001b9865f280 J l e.1) (λr m=>?_) (bQ (aw.map λr=>iM r::r.1) lk (by refine I j ?_;exact bO 0x356227a0240b9865f280 J l) ?_)⟩
 ·exact az (e.2 r m) l
 ·exact I j (z _ .push)
theorem w6{L:bS}{v:V}{Q:PS}{a:av D}(k:L[3]? =ae (ae v))(q:dA h v aw)(g:∀r∈aw,r.1∈eO)(l:(Y7 aw)<=3000)(e:pg (gr aw) 91 (bh aw) ⟨ai,true⟩ .block 0=ae a)(z:∀d,Kp h d->Q .next (cx L 5 (.bool (decide (a=ae (Y7 aw))))) d):wX (Cf bA 184) Tr L Q h:=by
 have b:∀d,Kp (h++[O.bq [.bool ai,.bool true]]) d->Q .next (cx L 5 (.bool (decide (a=ae (Y7 aw))))) d:=λd c=>z d (Kp.push.trans c);refine n9 (C:=Cf bA 184) (.cons (.lo k) (.cons .co (.cons .co (.cons (.bq (.cons .co (.cons .co .nil))) .nil)))) (OM 91 aw ⟨ai,true⟩ g l (q.kp .push) (aW _ rfl lk) (bU _) e λd c=>(q.kp (Kp.push.trans c)).len (C:=Cf bA 184) l (.lo k) _ ?_);have b:=b d c;induction a with
 |none=>
  refine aW _ (.int J) ?_;rw[aO (by nofun)] at b;exact I (aK.mpr (bO 0x3aac0b2b274 J)) b
 |some j=>
  refine aW _ (.int J) ?_;rewrite[show((j:aF)==((Y7 aw):D))=decide (ae j=ae (Y7 aw)) by
   by_cases y:j=(Y7 aw)
   ·refine I y ?_;rw[fW,aR J]
   ·rw[aK.mpr (UY y),aO λe=>y (aT e)]];exact b
theorem CC{X:Prop}:Nw X (n+2) 0 [] h (h++[.inst 0 y8]):=λQ q=>⟨0,_,rfl,_,rfl,rfl,cL (.lo J) (.lo J) (eV J (bU _)) (cL (.lo J) (.lo J) (eV J (by show 1<=900;exact ac J)) (cL (.lo J) (.lo J) (eV J (by show 2<=900;exact ac J)) (cL (.lo J) (.lo J) (eV J (by show 3<=900;exact ac J)) (cL (.lo J) (.lo J) (eV J (by show 4<=900;exact ac J)) (cL (.lo J) (.lo J) (eV J (by show 5<=900;exact ac J)) (cL (.lo J) (.lo J) (eV J (by show 6<=900;exact ac J)) (cL (.lo J) (.lo J) (eV J (by show 7<=900;exact ac J)) (cL (.lo J) (.lo J) (eV J (by show 8<=900;exact ac J)) (cL (.lo J) (.lo J) (eV J (by show 9<=900;exact ac J)) ⟨rfl,q⟩)))))))))⟩
end
noncomputable def Ks(a:ag aF):jR:=λk=>if k=1000 then ae (.list (a.map .int)) else P.K k
noncomputable abbrev C1(b:ag aF):Cy:=⟨Ks b,P.fld,P.fI,λa a a a=>bA,bA,ai⟩
section
variable{n c k:D}{h d g f:H}{Q:P1}{aw:ag iQ}
theorem Su{a:ag aF}(l:(Y7 a)<=63){L:bS}(b:L[0]? =ae (ae (.aV 1000))):Ev (C1 a) E3 L h (.ref h.length) (h++[.list ((a.take 30).map .int)]):=by
 have e:gN (a.map V.int) ax (ae (30:aF))=(a.take 30).map .int:=by
  refine(?_ :((a.map V.int).drop 0).take (gu (a.map V.int).length ((30:D):aF)-0)=_)
  refine I lF ?_;refine I qS ?_;refine I (Nat.sub_zero ..) ?_;refine I GP ?_
  by_cases y:30<=(a.map V.int).length
  ·exact I (eI y) J
  ·exact I (mR (bO 0xd66240c40989 J y)) (I (bK (aE _)) (I (bK (bO 0xd66240c40989 J y)) J))
 exact I (aQ e) (.BN (.lo b) .co (.list (show Look (Ks a) h (.aV 1000) (.list (a.map .int)) from cw J) J J (I (aH ..) (az l (ac J)))))
theorem w1{i:ag aF}(l:(Y7 i)<=63){L:bS}(p:L[0]? =ae (ae (.aV 1000))):(wE (C1 i) Ws).1 L (λv h=>∃n,v= .ref n/\h[n]? =ae (.bq [.ref 3,.ref 4])/\Bx h 3 1 0/\h[4]? =ae (.list [])) []:=by
 have k:(i.take 30).length<=30:=by refine I bE ?_;exact UX
 generalize e:i.take 30=xs at k
 have j:∀{h:H},Ev (C1 i) E3 L h (.ref h.length) (h++[.list (xs.map .int)]):=λ{h}=>e▸Su l p
 refine aM (Bh (a:=xs.sum) (w:=997) (ac J)) λm o q=>?_
 have r:Ev (C1 i) (.ca (.c (.ty 4)) [E3]) L [] (.ref 1) [.list (xs.map .int),.list (xs.map .int)]:= .ty (.cons j .nil) (.cp (rfl) (show(xs.map V.int).length<=dW by exact I (aH ..) (az k (ac J))))
 exact Ev.bq (C:=C1 i) (L:=L) (.cons (.eS (.cons r (.cons .co (.cons (.dy (.bi (b:=4) (.cons j .nil) (.sum (rfl))) .co (.int q)) .nil)))) (.cons (.eS .nil) .nil)) _ (Mj 5 J J (wU xs m J J (aa J) k (bO 0xda098b02f7662c0 J o)) J)
theorem Pr{w:ag D}:w∈eO->w.all (·<128)=am:=(of_decide_eq_true J:∀w∈eO,w.all (·<128)=am) w
theorem Cr(a:∀r∈aw,r.1∈eO):(cm aw).all (·<128)=am:=by
 refine I List.all_flatMap (aS.mpr λr m=>I ju (I (Pr (a r m)) (I (Bool.and_true ..) ?_)));unfold iM;cases r.2<;>rfl
theorem w7{L:bS}{a:av D}(p:Pf qA (aw.map (·.1)))(e:pg (gr aw) 91 (bh aw) ⟨ai,true⟩ .block 0=ae a)(s:L[4]? =ae (ae (.str (cm aw))))(z:∀v d,a=ae (Y7 aw)->eD d v zH->Q v d):oh (Cb bA true (n+430)) Pd L (λo h=>P.call true (¬a=ae (Y7 aw)) (n+430) (.fn 97) o Q h) h:=by
 have k:=Hn p;refine(mC.cons (C:=Cb bA true (n+430)) (.vV (.lo s) .iW (.cons .co .nil) (.iW (Cr (rm p)) (az k.size (ac J))) (aa J)) (.cons .co (.cons (Ev.cls (X:=bA) .nil (CC (n:=n+428))) .nil))) _ ?_;have m:An (pc aw h.length (h++[O.inst 0 y8]).length) .block (bh aw) ⟨ai,true⟩ 0 a:=⟨91,e⟩;refine Er k (LJ p) lk (λb t=>?_) λv d j c r q=>?_
 ·exact b a m _ t (uU (aE _))
 ·have l:=c a m;exact z v d (l.trans (aL ae (LL p (MF (λi y=>uU y) 91 (bh aw) ⟨ai,true⟩ .block 0 j (l▸e) (bU _)) r))) q
end
end Mi
end
section
namespace Mi
open PySem PySem.W PySem.Calls PyProof.Rows
theorem Rm.le{A:cG}{m n:D}(l:m<=n)(R:Rm A n):Rm A m:=⟨ri 0x360e8368002bc3a0da010ae040 J l R.Py,ri 0xd83a20528a40402bc3a20528a41402b81033cf3cf3cf3 J l R.un,R.hd⟩
section
variable{z:Z}{Lc:bS}{H:Mi.H}
theorem step{c:aD}{d:gZ}{a:ag gZ}{m:bS->PS->Mi.H->Prop}{Q:Bw->aA->Prop}{E:ay->aA->Prop}(j:z.cl=ai\/z.cl=c)(t:¬z.C.X)(x:zt z (tZ z.G.T) (GH d z.aJ) m)(p:Pt z Lc H){R:bS->Mi.H->Prop}
  (h:m Lc (λn L H=>n= .next/\R L H) H) (k:∀g i (q:Pt z g i),Le p q->R g i->cP c z.G.M z.A (nN a z.aJ) Q E q.s):cP c z.G.M z.A (nN (d::a) z.aJ) Q E p.s:=by
 refine I (ic ..) ?_;have v:∀{cl'},z.wp (GH d z.aJ) (λf s=>f= .next/\cP cl' z.G.M z.A (nN a z.aJ) Q E s) p.s->cP z.cl z.G.M z.A (GH d z.aJ) (λf s=>f= .next/\cP cl' z.G.M z.A (nN a z.aJ) Q E s) E p.s:=λh=>Z.wp.as t h;have w:=v (cl':=c) (x _ _ p _ _ h λg i q n f l r b=>cv b λe u=>by
  revert r;refine I e λr=>?_;cases r;exact⟨rfl,k g i q l u⟩);refine aG (fx (Q:=λf s=>f= .next/\cP c z.G.M z.A (nN a z.aJ) Q E s) ?_ (λf s b=>cv b λe h=>I e h) λo o x=>x);rcases j with e|e
 ·rw[e] at w;exact cP.rR w
 ·rw[e] at w;exact w
theorem Db(F:z.wa){a:Rd}(R:qC z a)(X:∀id,a.yg=ae id->JF z id){n:D}{c:ag gZ}{b:ag S}(h:qi (xD a n) c=ae b):pe z c b:=by
 have g:=(lX h).imp λd d h=>xC F R X n _ _ h;clear h;induction g with
 |nil=>exact vq
 |cons h _ e=>exact sR h e
theorem Pt.as(p:Pt z Lc H)(a:aD)(C:Cy):∃q:Pt {z with cl:=a,C:=C} Lc H,q.s=p.s/\q.h=p.h:=(aW ⟨⟨p.h,p.tk,p.ρ,p.gB,p.jO⟩,p.fst⟩ J J)
end
theorem N1:∀w∈eO,1<=w.length:=aa J
theorem QK:∀{a:ag (ag D)},(∀w∈a,w∈eO)->2*((Y7 a):aF)<=su 3 a
 |[],_=>cy _
 |w::r,v=>by
  have:=QK λx m=>v x (.tail _ m);have:=N1 w (v w (.head _));refine I bv (?_ :_<=1+(w.length:aF)+su 3 r);exact JO 0x35a02a2b06b269ae8240acab8126e0a9ac0aca J ‹2*↑r.length<=su 3 r› this
section
variable{z:Z}{rest:ag gZ}{t2 t3 t4 t5 t6:gZ}{Q:Bw->aA->Prop}{E:ay->aA->Prop}{H:Mi.H}{cl:aD}
theorem Lv(i:z.cl=ai)(F:¬z.C.X)(x2:zt z (tZ z.G.T) (GH t2 z.aJ) λL Q=>(wE (Cf bA 184) Tv).1 L λv h=>∃n:D,v= .int n/\n<=1000/\A5 (Cf bA 184) 2 QM Q n 0 L h)(x3:zt z (tZ z.G.T) (GH t3 z.aJ) λL Q=>(wE (Cf bA 184) Tu).1 L λv h=>∃n:D,v= .int n/\n<=1000/\A5 (Cf bA 184) 2 QL Q n 0 L h)
  (x4:zt z (tZ z.G.T) (GH t4 z.aJ) λL Q=>rS P.K (wE (Cf bA 184) (.l 1)).1 (f4 (Cf bA 184)) L λv=>Q .next (cx L 3 v)) (x5:zt z (tZ z.G.T) (GH t5 z.aJ) λL Q=>rS P.K (wE (Cf bA 184) (.l 3)).1 (f5 (Cf bA 184)) L λv h=>∃U:ag (ag D),Look P.K h v (.list (U.map .str))/\U.flatten.length<=dW/\Q .next (cx L 4 (.str U.flatten)) h)
  (x6:zt z (tZ z.G.T) (GH t6 z.aJ) (wX (Cf bA 184) Tr)) (p:Pt z (cx [some (.aV 1000),none,none,none,none,none,none] 1 (.ref 4)) H) (bx:Bx H 3 1 0) (g4:H[4]? =some (.list []))
  (k:∀m o N a f L H (q:Pt z L H),L=[some (.aV 1000),some (.ref m),o,some (.ref N),some (.str (cm a)),some (.bool (decide (f=some (Y7 a)))),none]->Pf qA (a.map (·.1))->pg (gr a) 91 (bh a) ⟨ai,true⟩ .block 0=some f->cP cl z.G.M z.A (nN rest z.aJ) Q E q.s):
  cP cl z.G.M z.A (nN (t2::t3::t4::t5::t6::rest) z.aJ) Q E p.s:=by
 refine step (.inl i) F x2 p (R:=λu j=>∃m r k w,u=lL (.aV 1000) m w none none none none/\Bx j 3 1 k/\k<=80/\j[m]? =some (.list (r.map .str))/\Pf wu r) (w2 (n:=176) bx g4 λS m r k w q l g p=>⟨rfl,m,r,k,w,rfl,q,l,g,p⟩) λL2 H2 p2 x b=>Mk b λm2 GE k2 w t Fr l2 af W=>?_;clear b;clear x;subst t;refine step (.inl i) F x3 p2 (R:=λu j=>∃m r k w,u=lL (.aV 1000) m w none none none none/\Bx j 3 1 k/\k<=100/\j[m]? =some (.list (r.map .str))/\Pf qA r) (w3 (n:=176) Fr l2 af W λS m r k w q l g p=>⟨rfl,m,r,k,w,rfl,q,l,g,p⟩) λL3 H3 p3 x b=>Mk b λB d k3 y t aj l3 Z c=>?_;clear b;clear x;subst t;have Y:(Y7 d)<=800:=by
  have:=QK c.iK
  have:=c.A6 3
  have:(qA 3).1<=1000:=by decide+kernel
  exact UW ‹2*↑(Y7 d)<=su 3 d› ‹su 3 d<=(qA 3).fst› this
 refine step (.inl i) F x4 p3 (R:=λu j=>∃N a,u=[some (.aV 1000),some (.ref B),y,some (.ref N),none,none,none]/\dA j (.ref N) a/\a.map (·.1)=d) (w4 (n:=183) aj l3 Y J Z λN S a k q O e=>⟨rfl,N,a,rfl,O,e⟩) λL4 H4 p4 x b=>pC b λN a t O ew=>?_;clear b;subst t ew;refine cs (LK c) λf er=>step (.inl i) F x5 p4 (R:=λu j=>u=[some (.aV 1000),some (.ref B),y,some (.ref N),some (.str (cm a)),none,none]/\dA j (.ref N) a) (w5 (n:=184) (L:=[some (.aV 1000),some (.ref B),y,some (.ref N),none,none,none]) (Q:=λv h=>Fl.next=Fl.next/\cx [some (.aV 1000),some (.ref B),y,some (.ref N),none,none,none] 4 v=[some (.aV 1000),some (.ref B),y,some (.ref N),some (.str (cm a)),none,none]/\dA h (.ref N) a) J O (az (Hn c).size (ac J)) λS kp=>(bX J J (O.kp kp))) λL5 H5 p5 x b=>cv b λt V=>?_;clear b;clear x;subst t;exact step (.inl i) F x6 p5 (R:=λu j=>u=[some (.aV 1000),some (.ref B),y,some (.ref N),some (.str (cm a)),some (.bool (decide (f=some (Y7 a)))),none]) (w6 J V (rm c) (az (yH c) (ac J)) er λS kp=>⟨rfl,rfl⟩) λL6 H6 p6 x t=>k B y N a f L6 H6 p6 t c er
end
section
variable{w:dj}{sa:bk}{hb:cW}{c:bk}{A:cG}{K:pq}{aJ:rP}{L:bk}{b:aA}{is:ag aF}
theorem R7{G:Gl}(a:Fw G P.K)(e:G.T.kA 1000=sa)(b:∀(T:kq) (ρ:fD),OR T ρ G.hb sa sa (.list (is.map .int))):Fw G (Ks is):=λk o g ρ=>by
 unfold Ks at g;by_cases y:k=1000
 ·rw[cw y] at g;exact sb (si g) (I y (I e (b _ _)))
 ·rw[bG y] at g;exact a k o g ρ
noncomputable def Ha(a:bk×bk)(i:D):av (bk×bk):=if i=3 then ae a else ax
theorem IG{z:Z}(m:¬z.C.X){c:gZ}(g:zt z (tZ z.G.T) (GH c z.aJ) (wX (Cb bA am 430) Wr)){Lc:bS}{H:Mi.H}{e:aD}{nn:D}{l j:V}(u:Lc[5]? =ae (ae (.bool e)))(t:Lc[6]? =ae (ae (.ref nn)))(n:e=am)(gn:H[nn]? =ae (.inst 5 [(12,.str zH),(19,l),(46,j)]))(p:Pt z Lc H)
  {Q:Bw->aA->Prop} {E:ay->aA->Prop} (done:∀h tk,(∀b o,z.G.hb.get? b=ae o->h.get? b=ae o)->Q (.ret (.bool am)) (up z.b h tk)):cP z.cl z.G.M z.A (nN [c] z.aJ) Q E p.s:=by
 refine I (ic ..) (aG (Z.wp.as m (g _ _ p (λd L H=>d= .ret (.bool am)) _ (Ev.lo (C:=Cb bA am 430) u _ (aW am (aL ae n) (Ev.cj (.at (.lo t) (.i gn J J)) (Ev.co (v:= .str zH)) (kg.str (x:=zH) (y:=zH)) _ (by rfl)))) λB F k d f w a q=>?_)));revert a;refine I q λa=>?_;cases a with
 |ret r=>exact I (r) (aX (done _ _ k.gB.keep))
theorem II(T:∀Y W pn,m6 (GG pw w sa hb Y W pn) K TX)(R:Rm A 430)(E:qo aJ L)(u:A.frames=ae [aJ])(r:aJ.frame=ae L)(hk:aJ.kindOf "box"=ae .cell)(hc:aJ.cells.lookup ("box":bR)=ae c)
  {Bv:ay} (U:exmOne K (.ref (gY 2)) Bv=ae am) {mg:bR->av ay} (ng:hb.Ns eQ mg) (gE:mg "LuaError"=ae Bv) (hs:∀(T:kq) (ρ:fD),OR T ρ hb sa sa (.list (is.map .int))) (li:(Y7 is)<=63)
  {H:cW} {tk:D} {m:bR->av ay} (S:∀b o,hb.get? b=ae o->H.get? b=ae o) (ns:H.Ns L m) (ms:m "script"=ae (.ref sa)) (X:H.IsCell c none) (cn:hb.get? c=none) (Ln:hb.get? L=none) (Lc:L≠c) (fu:H.FunFrames hb [aJ])
  {Q:Bw->aA->Prop} {Ee:ay->aA->Prop} (done:∀h tk,(∀b o,hb.get? b=ae o->h.get? b=ae o)\/hb.StaysIn h->Q (.ret (.bool am)) (up b h tk)):cP am (bP pw w) A (nN pM aJ) Q Ee (up b H tk):=by
 refine I ID (cps λGq kG=>?_)
 have T1:=T c (.cell none) (λf=>none)
 have F1:(Zw (GG pw w sa hb c (.cell none) (λf=>none)) ai A K (C1 is) aJ L b).Ok:=Dh T1 R E J (R7 T1.ko (show(if(1000:D)=1000 then sa else zc 1000)=sa from cw J) hs) J J λf f f f f f f f f h=>h.elim
 refine aM X λoc GE V=>?_
 have no:∀{x:bk},¬own ([]:fD) x:=λaf=>wW af λn a d e f=>nomatch e
 have P:∃P:Pt (Zw (GG pw w sa hb c (.cell none) (λf=>none)) ai A K (C1 is) aJ L b) [ae (.aV 1000),none,none,none,none,none,none] [],P.s=up b H tk:=by
  refine⟨⟨⟨H,tk,[],⟨rfl,S,λn o a d e=>(nomatch e),λn m a d a' d' f e=>(nomatch e),λx e=>(no e).elim⟩,⟨(bQ ([aJ]) u fu (λf f f f=>no)),(bQ oc GE V (λvs e=>by rw[V] at e;cases e)),no,λf e=>e.elim,λi p e=>(nomatch e)⟩⟩,(bQ m ns J (λi x v hx q=>?_)),no,Ln,Lc⟩,rfl⟩
  match i,q with
  |0,q=>
   cases q
   exact sb (si hx) (aW _ ms (aL JZ (show(if(1000:D)=1000 then sa else zc 1000)=sa from cw J).symm))
  |1,q=>cases q
  |2,q=>cases q
  |3,q=>cases q
  |4,q=>cases q
  |5,q=>cases q
  |6,q=>cases q
  |_+7,q=>exact nn q
 refine cs P λ_ _=>?_;rename_i P es
 refine kG (I (aQ es) (I (ic ..) (aG (cP.rR (Z.wp.as (z:=Zw (GG pw w sa hb c (.cell none) (λf=>none)) ai A K (C1 is) aJ L b) id (Oi F1 (gU F1 (FP F1 J J T1.attrs) 40 _ _ MU.2).1 MU.1 hk hc J (j:=1) J cn (λfs hf e he L' hL=>?_) (C:=Cf bA 184) id (λg F=>xQ (T c (.cell (ae (.ref g))) (Ha (g,F))) (R.le (ac J)) E) P (w1 li J) λH1 g F q1 hR=>?_))))))
 ·rw[u] at hf
  revert he;refine sb (si hf) λhe=>?_
  revert r;refine sb (ao.mp he) λr=>?_
  rw[r] at hL
  exact sb (si hL) Lc
 have B:Rm A 184:=R.le (ac J)
 have M:=T c (.cell (ae (.ref g))) (Ha (g,F))
 have B2:um (GG pw w sa hb c (.cell (ae (.ref g))) (Ha (g,F))) aJ:=⟨hk,hc,g,F,rfl,rfl⟩
 have t:(Zw (GG pw w sa hb c (.cell (ae (.ref g))) (Ha (g,F))) ai A K (Cf bA 184) aJ L b).wa:={xQ M B E with fr:=⟨[],u⟩,ye:=r}
 have D2:=vh (b:=b) M t.toOk B2
 have X2:∀id,qc.yg=ae id->JF (Zw (GG pw w sa hb c (.cell (ae (.ref g))) (Ha (g,F))) ai A K (Cf bA 184) aJ L b) id:=λf e=>nomatch e
 have hr:qK fS "range"=ae (.ty 8):=by decide+kernel
 refine Lv (z:=Zw (GG pw w sa hb c (.cell (ae (.ref g))) (Ha (g,F))) ai A K (Cf bA 184) aJ L b) J id (xF t (j:=2) J hr J F4.1 (gU t.toOk D2 40 _ _ F4.2.1).1 (Db t D2 X2 F4.2.2)) (xF t (j:=2) J hr J F3.1 (gU t.toOk D2 40 _ _ F3.2.1).1 (Db t D2 X2 F3.2.2)) (IE M B t.toOk E B2 y9.1 y9.2.1 y9.2.2.1 y9.2.2.2.1 J y9.2.2.2.2)
  (KM t.toOk (j:=4) J J (KU t.toOk J J J (EK M t.toOk B E B2 wI.1 wI.2.1 wI.2.2.1 wI.2.2.2.1 wI.2.2.2.2.1 wI.2.2.2.2.2))) (xC t D2 X2 40 _ _ R5) q1 hR.1 hR.2 λm o N G O L6 H6 p6 eL pf er=>?_
 revert p6;refine I eL λp6=>aM (p6.as am (Cb bA am 430)) λp7 GT f=>I (aQ GT) (I (ic ..) (aG (Oh T R E B2 u r U ng gE MT.1 MT.2 (bl:=decide (O=ae (Y7 G))) J p7 (w7 (n:=0) (Q:=λv h'=>O=ae (Y7 G)/\eD h' v zH) pf er J λv h' y nd=>⟨y,nd⟩) (λv H8 p8 ⟨y,nn,l,pp,ev,gn⟩=>?_) λId h8 aj Fr=>?_)))
 ·have F7:(Zw (GG pw w sa hb c (.cell (ae (.ref g))) (Ha (g,F))) am A K (Cb bA am 430) aJ L b).wa:={xQ M R E with fr:=⟨[],u⟩,ye:=r}
  revert p8;exact I ev λp8=>IG (z:=Zw (GG pw w sa hb c (.cell (ae (.ref g))) (Ha (g,F))) am A K (Cb bA am 430) aJ L b) id (xC F7 (vh M F7.toOk B2) (λf e=>nomatch e) 40 _ _ R4) J J (aR y) gn p8 λh tk k=>done h tk (.inl k)
 ·exact I (aO Id) (aX (done h8 aj (.inr Fr)))
end
end Mi
end
set_option backward.match.sparseCases true
section
namespace Mi
open PySem PySem.W PySem.Calls PyProof.Rows
section
theorem DW{P:W9}{h:cW}{j:ag WData}{g:ag ay}(w:WellAll P h g j):WShape.hasItems [] j .int=am->∃f:ag aF,Y7 f=Y7 j/\∀T ρ,iD T ρ (f.map .int) g:=by
 refine WellAll.rec (motive_1:=λv d c=>WShape.has [] d .int=am->∃i t,v= .int i t) (motive_2:=λg m c=>WShape.hasItems [] m .int=am->∃f:ag aF,Y7 f=Y7 m/\∀T ρ,iD T ρ (f.map .int) g)
  (motive_3:=λc c c=>JY) (motive_4:=λc c c=>JY) (motive_5:=λc c c=>JY)
  (λe=>nomatch e) (λc e=>nomatch e) (λi t c=>(DT i t J)) (λc c e=>nomatch e) (λc c e=>nomatch e) (λc c e=>nomatch e) (λc e=>nomatch e) (λc c c e=>nomatch e) (λc c c e=>nomatch e) (λc c c e=>nomatch e) (λc c c c c e=>nomatch e) (λc c c c c e=>nomatch e) (λc c c c c e=>nomatch e)
  (λc=>(aW ([]) J (λc c=> .nil))) (λc c a b e=>?_) trivial (λc c c c c c=>trivial) trivial (λc c c c=>trivial) trivial (λc c c c=>trivial) w;refine cv ((aq _ _).mp e) λo n=>?_;refine Mm (a o) λi t k=>?_;clear a;refine I k ?_;refine aM (b n) λf l r=>?_;exact aW (i::f) (aL vP l) (λT ρ=> .cons ⟨t,rfl⟩ (r T ρ))
theorem DV{P:W9}{h:cW}{b:ag WData}{c:ag ay}(w:WellAll P h c b)(e:WShape.hasAll [] b [.list .int]=am):∃k a l,b=[.list k]/\c=[.ref a]/\h.get? a=ae {cls:= .type "list",data:= .seq l}/\∃m:ag aF,Y7 m=Y7 k/\∀T ρ,iD T ρ (m.map .int) l.toList:=by
 refine cY (hasAllW_cons e) λd r j f=>?_;revert w e;refine I j ?_;intro w e;refine cv f λi q=>?_;clear f;revert w e;refine I (hasAllW_nil q) ?_;intro w e;cases w with
 |cons p o=>
  cases o;cases p with
  |list g w=>exact uR _ _ _ rfl J g (DW w ((Bool.or_false _).symm.trans i))
  |_=>first|exact nn i|exact ft i|cases i
theorem Lq{R:WRecords}{a:ag WData}(h:(WTm.and (.not (.lt (.lit (.int 63)) (.len (.arg 0)))) (.lit (.bool am))).holds R {args:=[.list a]}=am):(Y7 a)<=63:=by
 have h:=(holds_andW h).1
 have e:(WTm.not (.lt (.lit (.int 63)) (.len (.arg 0)))).value R {args:=[.list a]}=ae (.bool (!decide ((63:aF)<Y7 a))):=by rfl
 rw[holdsW_of_value e,bc,L7] at h
 exact bO 0xd672c0cab02b9cb J h
open PySem.Challenge
noncomputable def JD(p:vO):av bR:=ok (p.posonlyargs.isEmpty&&(p.kwonlyargs.isEmpty&&(p.vararg.isNone&&(p.kwarg.isNone&&(p.defaults.isEmpty&&p.kw_defaults.isEmpty))))) ((rz p.args).map (·.arg))
theorem yF:(defOf (view pw [113]) "law").map (λx=>(x.2,x.1.name,JD x.1.params,x.1.body))=some (([]:ag (bR×be)),("law":bR),some ("script":bR),pM):=by kernel_rfl
theorem O9:(defOf (view pw [113]) "law").map (λx=>(x.1.scope.names,x.1.scope.kind,x.1.scope.isCoroutine,x.1.scope.isGenerator))=ae (fS,.function,ai,ai):=by kernel_rfl
theorem Ls:pw.theDef "law"=(defOf (view pw [113]) "law").map λx=>(x.1.params,x.1.body,x.1.scope):=by kernel_rfl
theorem Pb:(chainsOk (view pw [113])&&opensWell pw&&(frees eE.row.toRowW&&eE.row.within.isEmpty))=am:=by decide+kernel
theorem IJ:pw.bare:=(GU J J J J ⟨rfl,(by decide+kernel)⟩)
theorem IF:eE.row.toRowW.promised:=(aW ([.list []]) (by decide+kernel) (by decide+kernel))
theorem yM{p:vO}{x:bR}(h:JD p=ae x):(p.posonlyargs=[]/\p.kwonlyargs=[]/\p.vararg=ax/\p.kwarg=ax/\p.defaults=[]/\p.kw_defaults=[])/\(rz p.args).map (·.arg)=ae x:=by
 unfold JD at h;refine jq h λa b=>?_;simp only [aq,dJ,hJ] at a;exact⟨a,b⟩
theorem I1{j:gQ}{x:ay}(d:JD j.params=ae ("script":bR))(b:j.defaults= .none):bindArgs j ⟨[x],[]⟩=pure [(("script":bR),x)]:=by
 obtain⟨_,_,⟨p,y,n,r,w,q,s⟩,_,_,_,_,t⟩:=j;refine cv (yM d) λk m=>?_;dsimp only at k m;revert d b;refine ou p k λh=>?_;intro d b;clear k;revert d b;refine ou r h λg=>?_;intro d b;clear h;revert d b;refine ou n g λf=>?_;intro d b;clear g;revert d b;refine ou q f λc=>?_;intro d b;clear f;revert d b;refine ou s c λe=>?_;intro d b;clear c;revert b;refine I e ?_;intro b;refine aM (bw.mp m) λa l i=>?_;refine I (qY l) ?_;obtain⟨v,u,o⟩:=a;have i:v=("script":bR):=i;clear l i;subst i;have b:t= .none:=b;clear d b;subst b;rfl
def Yp(w:dj)(h:cW):Prop:=∃a,zf a=am/\uh a=kK/\(∀k∈nA,mY a k=j7 pw w k)/\∀b o,a.abs.heap.get? b=ae o->h.get? b=ae o
theorem IH{w:dj}{s₀ s₁:aA}{mg mb:bR->av ay}{loose:ag bR}(Gd:Ground (view pw [113]) loose [] (λx_ x_=>JY) w s₀ mg mb s₁.heap)(Y:Yp w s₁.heap){d:DefRec}{kwd:ag (bR×be)}(hdef:defOf (view pw [113]) "law"=ae (d,kwd)){a:bk}{o:A2}{pm cd doc dV kV:ay}(ho:s₁.heap.get? a=ae o)
  (hd:o.data= .func {docDef d.name d.params d.body d.scope pm cd doc with defaults:=dV,kwdefaults:=kV}) (hcd:s₁.heap.CodeRec cd d.name) (hdf:Dflts mg s₁.heap d.params kwd dV kV) (hg:s₁.gens= #[]) {args:ag WData} {vals:ag ay}
  (hpre:eE.row.toRowW.claim.pre args=am) (hwl:WellAll w.params s₁.heap vals args):
  cP am (bP pw w) callerA (cX (.ref a) vals) (λv s'=>GoodWG eE.row.toRowW.claim (AZ s₀.heap) (pH s₀.heap) args s₁ (.ok (.ret v)) s') (λe s'=>GoodWG eE.row.toRowW.claim (AZ s₀.heap) (pH s₀.heap) args s₁ (.error e) s') s₁:=by
 have l1:=yF;have l5:=O9;rw[hdef] at l1 l5;simp only [oB,zT,kD] at l1 l5;refine cv l1 λo_0 o_l=>?_;clear l1;clear hdef;revert hdf;refine I o_0 ?_;intro hdf;refine i7 o_l λl2 l3 l4=>?_;clear o_l;refine rQ l5 λ_ _ _ _=>?_;clear l5;rename_i l5 l6 l7 l8;refine cv (pre_splitW hpre) λhp1 hp2=>?_;revert hp2;refine zj args (DV hwl hp1) λxs sa vs o_l=>?_;intro hp2;clear hpre hp1;refine cv o_l λo_l0 o_ll=>?_;clear o_l;clear hwl;refine I o_l0 ?_;refine cv o_ll λhl o_lll=>?_;clear o_ll;refine aM o_lll λis il iv=>?_;clear o_lll;have len:(Y7 is)<=63:=il▸Lq (R:=[]) hp2;refine Xl Y λsT y1 y2 y3 y4=>?_;clear Y;have TO:=λL₀ d₀ pn=>N6 (p:=pw) (w:=w) (s:=sT) (hb:=s₁.heap) (sa:=sa) (L₀:=L₀) (d₀:=d₀) (pn:=pn) y1 y2 y3 y4;refine i7 (TO 0 .plain λx_=>ax) λT0 hx o_l=>?_;refine aM o_l λmg' ng gE=>?_;clear o_l;have dz:dV= .none:=by
  rcases hdf.pos with⟨_,h⟩|⟨h,_⟩
  ·exact h
  ·exact cq (yM l3).1.2.2.2.2.1 h
 refine lB (IX (fd:={docDef d.name d.params d.body d.scope pm cd doc with defaults:=dV,kwdefaults:=kV}) ⟨l6,l5,l7,l8,congrArg _ l4,rfl,rfl,rfl⟩ (by decide+kernel) ho hd T0.dW hcd (I1 l3 dz) λh' tk m ns ms cell keep=>?_);have nn:∀{b:bk},s₁.heap.objs.size<=b->s₁.heap.get? b=ax:=cz;refine GW (id ns) λoL es ep hoL hdL x_=>?_;refine fx (II (w:=w) (sa:=sa) (hb:=s₁.heap) (c:=s₁.heap.objs.size+1) (K:=mA sT) (L:=s₁.heap.objs.size) (b:=s₁) (is:=is) (λL₀ d₀ pn=>(TO L₀ d₀ pn).1) ⟨by refine(?_ :1+claimMargin+1+430+5<_);decide+kernel,by refine(?_ :4+3+8*430+200<_);decide+kernel,rfl⟩ ⟨l6,l5,rfl,rfl,rfl⟩ J J
  (by refine(?_ :d.scope.names.lookup _=_);refine I l5 ?_;decide+kernel) (by refine(?_ :(cellsFrom (s₁.heap.objs.size+1) d.scope.names []).lookup _=_);refine I l5 ?_;refine I (xW ..) ?_;rfl) hx ng gE (λT ρ=>(dO vs _ hl (iv T ρ))) len keep ns ms cell (nn (dR _)) (nn (aE _)) (cr (dc _))
  (bX (by refine(?_ :d.scope.kind≠_);refine I l6 ?_;decide) (tV _ oL J (nn (aE _)) hoL (λvs z=>by rw[hdL] at z;cases z)) trivial) (Q:=λf s'=>GoodWG eE.row.toRowW.claim (AZ s₀.heap) (pH s₀.heap) [.list xs] s₁ (.ok (.ret (match f with| .ret v=>v|_=> .none))) s') (Ee:=λx_ x_=>bA) λh tk k=>?_) (λf s' x=>x) λx_ x_ x=>x.elim
 exact qG (.inl (tU (.bool am) (.bool am) ([]) J (λx_=>rfl) (.bool am) (by kernel_rfl) (λx_=>⟨.nil,λx_ q=>nomatch q⟩))) (.of_keep (k.elim id id)) J (.of_eq hg)
end
end Mi
end
set_option backward.match.sparseCases false
set_option tactic.hygienic true
section
namespace Mi
open PySem PySem.W PySem.Calls PyProof.Rows
theorem Lu(Nl:eE.row.wellSaid=am):eE.row.Holds:=by
 have H:∃x,defOf qv ("law":bR)=ae x:=let⟨x,h,_⟩:=bw.mp yF;⟨x,h⟩
 obtain⟨⟨d,p⟩,j⟩:=H
 have n:=yF
 have E:=Ls
 have i:defOf (view pw [113]) ("law":bR)=ae (d,p):=j
 rw[i] at n E
 simp only [oB,zT,kD] at n
 obtain⟨v,_,O,_⟩:=n
 obtain⟨F,_⟩:=yM O
 obtain⟨z,y⟩:=(aq _ _).mp Pb
 obtain⟨z,Q⟩:=(aq _ _).mp z
 obtain⟨y,c4⟩:=(aq _ _).mp y
 exact EW (q:=qv) (loose:=mn) (YP:=Yp) CD (λw s e=>let⟨m,v,g,f,k⟩:=HK e;(Mj m g f k (λb o h=>by rw[v];exact h)))
  (λw h W ⟨m,a,b,c,k⟩ L=>(Mj m a b c (λb o e=>L _ _ (k b o e)))) j E (by rw[F.2.1,F.2.2.2.2.2,v];rfl) J J Nl z Q y J IJ IF
  λw C B T U R Y a o S Z P X V K N u t _ M G A as l _ _ r _=>IH R Y i K N u t M l r
theorem Nl:eE.wellSaid=am:=by
 unfold OpenLaw.wellSaid OpenRow.wellSaid OpenRow.partSaid looksOpen
 repeat' with_reducible refine look_both ?_ ?_
 all_goals decide+kernel
end Mi
theorem PySem.Challenge.cw_pc0182_01_holds : PySem.Challenge.rw_pc0182_01.Holds :=
 PySem.W.holds_law Mi.Nl Mi.Lu
end
end
