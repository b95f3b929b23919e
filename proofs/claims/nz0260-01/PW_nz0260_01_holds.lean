import PyProof.Rows.All
import Wide.All
import OpenK.AllK
import Wide.FinOn
import Lean
import PySem.Challenge.RW_nz0260_01
-- Joined from the texts of wip/ and shortened by the programs of wip/tools (join2, minify, squeeze): the same declarations under shorter names.
open And renaming imp_right→iN,intro→vB,left→eD,right→f4
open Array renaming any_toList→uB,getElem?_eq_getElem→eX,getElem?_eq_none→A6,getElem?_toList→bL,length_toList→bf,mem_toList_iff→gF,toArray_toList→DJ,toList_append→me,toList_push→Jb,toList_setIfInBounds→xv,toList→pn
open Bool renaming and_eq_true_iff→cz,and_eq_true→jf,and_false→mX,false_eq_true→s7,false_ne_true→aV,noConfusion→ay,not_true→iK,or_eq_true_iff→g6
open Classical renaming em→d0
open Decidable renaming em→rn
open Exists renaming elim→aD,imp→cP,intro→i4
open ForInStep renaming yield→oj
open Int renaming add_le_add→rp,add_one_le_of_lt→HM,ediv_lt_of_lt_mul→FC,ediv_nonneg→xw,emod_lt_of_pos→j7,emod_nonneg→mj,eq_ofNat_of_zero_le→po,fdiv_eq_ediv_of_nonneg→i8,fmod_eq_emod_of_nonneg→i9,le_antisymm→eY,le_max_left→qj,le_max_right→pq,le_of_eq→dV,le_of_lt_add_one→HN,le_of_lt→eT,le_refl→dR,le_sub_one_of_lt→i_,le_trans→aO,lt_iff_le_and_ne→HO,lt_of_le_of_lt→f9,lt_of_lt_of_le→j8,lt_or_eq_of_le→s_,lt_trans→dk,min_le_left→qk,min_le_right→pr,mul_le_mul_of_nonneg_left→fB,mul_le_mul_of_nonneg_right→dW,mul_lt_mul_of_pos_right→ya,mul_nonneg→rq,mul_one→rt,natAbs_of_nonneg→l4,natCast_nonneg→j9,ne_of_gt→jh,neg_le_neg→m_,not_lt→gV,ofNat_le→pH,ofNat_lt→mQ,ofNat_natAbs_of_nonpos→na,pow_pos→xi,sub_le_sub_right→HP,sub_nonneg_of_le→l5,toNat_lt→mR,toNat_of_nonneg→sj,toNat→gN
open List renaming all_append→xj,all_eq_true→bj,append_assoc→gO,append_nil→bQ,cons_ne_nil→lE,cons→A7,contains_iff_mem→DK,drop_eq_nil_iff→FD,drop→jg,filterMap_cons_some→oq,foldl→Jc,forIn_cons→xk,forall_mem_cons→aJ,getD_eq_getElem?_getD→f7,getElem?_append_left→dA,getElem?_append_right→eL,getElem?_concat_length→xy,getElem?_eq_getElem→d8,getElem?_eq_none_iff→nL,getElem?_eq_none→eZ,getElem?_eq_some_iff→jk,getElem?_inj→nQ,getElem?_map→eM,getElem?_of_mem→lS,getElem?_toArray→qm,getLast?_eq_getElem?→nM,getLast?_eq_none_iff→zh,getLastD_eq_getLast?→nN,head_eq_of_cons_eq→A8,isEmpty_iff→uV,length_append→bh,length_dropLast→FE,length_eq_one_iff→DA,length_eq_zero_iff→cX,length_map→bJ,length_pos_iff→fQ,length_range'→Ja,length_set→iI,length→fU,lookup_cons→g9,map_congr_left→se,map_cons→AJ,map_fst_zip→g_,map_inj_left→nR,map_map→tW,mem_append_left→dx,mem_append_right→dH,mem_append→fJ,mem_cons_of_mem→aQ,mem_cons_self→aW,mem_cons→bW,mem_filterMap→Jd,mem_flatMap→uW,mem_map_of_mem→g7,mem_map→dM,mem_of_getElem?→dy,mem_of_mem_drop→FF,mem_of_mem_take→FG,mem_range→qX,mem_reverse→uX,mem_singleton→aZ,nodup_append→gP,nodup_cons→dS,nodup_nil→f8,not_mem_nil→bN,pairwise_cons→Je,pairwise_singleton→o4,range'→gM,range→eu,rec→o8,replicate→eO,size_toArray→cS,tail_eq_of_cons_eq→A9
open List.cons renaming inj→ql
open Nat renaming add_le_add_left→hF,add_le_add_right→fC,add_lt_add_right→rx,add_right_comm→cT,add_sub_cancel_left→hN,add_sub_of_le→uC,beq_refl→uD,beq→a_,ble_eq_true_of_le→cY,ble→bB,blt→fK,decEq→jl,eq_of_beq_eq_true→aL,le_add_right→bq,le_of_ble_eq_true→aP,le_of_eq→aT,le_of_lt→eU,le_of_succ_le_succ→k5,le_refl→cE,le_succ_of_le→uE,le_succ→xm,le_trans→aF,lt_add_of_pos_right→DB,lt_irrefl→fj,lt_of_le_of_lt→aS,lt_of_lt_of_eq→io,lt_of_lt_of_le→ff,lt_of_succ_lt_succ→iq,lt_or_ge→DL,lt_succ_self→jm,lt_trans→b9,mul_le_mul_left→jB,mul_le_mul_right→HQ,ne_of_beq_eq_false→pI,ne_of_gt→uF,ne_of_lt→dN,not_lt_zero→ml,not_succ_le_zero→ja,one_mul→HS,pow_le_pow_right→ry,rec→DM,strongRecOn→xz,succ_add_eq_add_succ→oz,succ_le_succ→eE,succ_lt_succ→f5,succ_ne_zero→cx,succ_pos→uG,succ_pred_eq_of_pos→DC,succ→rz,zero_add→fm,zero_le→ot,zero_lt_succ→pt
open Nat.succ renaming inj→eG
open Option renaming bind_some→lh,isNone_iff_eq_none→jc,isSome_iff_exists→js,map_eq_some_iff→eH,map→e6,or_eq_some_iff→A_,some→af
open Option.some renaming inj→ak
open Prod renaming snd→o9
open Prod.mk renaming inj→gA
open PyProof renaming noPylong_small→oA
open PyProof.Rows renaming subscriptTail→kK
open PyProof.Rows.F renaming entry_set_update_loop→ou,plain_set_update_loop→iJ
open PySem renaming Addr→au,Arguments→zi,Around→bn,BindsTo→mN,Builtin→b7,CmpOp→jY,Code→vC,Comprehension→i5,DictEntry→bi,Expr→aB,Flow→mo,FuncData→d5,GenState→d6,IntMulOk→jD,IsRangeIter→AM,Model→ir,NameKind→dJ,Operator→cF,Pos→c7,Program→aK,Result→iP,Scope→qF,Sem→ie,Shared→ar,Slot→Bb,Stmt→fW,Str→bM,Tok→j_,Value→am,World→bw,again→qH,argsOk→hO,assignEach→jE,assignInOrder→gj,behindInMarks→pJ,binaryOp→kM,bindName→mS,bm_if_false→AP,builtinLookup_eq_fast→aX,builtinType_eq_fast→uH,builtinsNs→mq,cLine→qI,callAny→DH,callEnvC→eB,callType_codes→DP,callerA→tY,checkBuiltinCall→iw,clipAt→mr,closureFor→DQ,codeAny_builtin→kV,codeAny_of_tree→Bd,compTurn→mT,compareOp→dw,comprehension→rC,constantsAlone→te,entryFor_alias→DR,entryFor_of_tree→eJ,entryFor→fu,firstArgMember→jF,foldedForSure→mP,foldedSetIterable→d_,getMethod_builtin→pE,getMethod→fD,importedModules→Be,inplaceOp→ms,intBits_le_64→pK,intBits_le_iff→tf,intKind_is→vH,intKind→cD,int_index→Jj,interactive→AQ,isInstance→rD,isSubtype_stop→DS,isSubtype_type→ch,isTrue→kN,letOwnedTupleGo→du,letTemporaryGo→iy,mainGlobals→dG,markedBehindIn_of_false→Jk,model→aE,newExc→DT,noteFrame→qJ,operate→DI,outcomeOf→tZ,plainId_quiet→kO,pyIter→iz,pyNext→gG,rawInt→np,recursionLimit→tg,relabel→rF,seqIndex?→jW,setAddHashed→rG,setAttr→xC,setItem→eP,sizeLine_eq→dX,sizeLine→f6,slot_list_getitem→AR,specialOf→t2,standAt→di,starEach→fw,storeName→t3,stored→th,swappedStores→i6,swapsWithSole→HU,swapsWith→oy,sysModules→df,theTreesLotGoes→kW,tupleKind→g5,typeIs_int→mu,typeLookup_type→bF,typeLookup→hU,typeOf→rH,unsupported→AT,withoutEnding?→DU,wpAny_askSetting→iA,wpAny_assign_Name→xD,wpAny_attempt→kP,wpAny_bind→aj,wpAny_callSpecial?_slot→c_,wpAny_call_entry→cA,wpAny_call→vI,wpAny_dictEntries→ed,wpAny_dictEpoch→nt,wpAny_fieldsOf→DV,wpAny_holding→bS,wpAny_isInstance→eK,wpAny_ite_split→Bg,wpAny_items_nil→Bh,wpAny_list_append_plain→Jl,wpAny_load→iQ,wpAny_mkInt→li,wpAny_mono→cZ,wpAny_newFunctionEnv_cells→DX,wpAny_newObj_type→cO,wpAny_notOrdered_dict→mf,wpAny_of_eq→bu,wpAny_point→AU,wpAny_pure→aw,wpAny_pyIter_list→xE,wpAny_pyIter_slot→xF,wpAny_pyNext_range_item→Jm,wpAny_release→HV,wpAny_rule→mv,wpAny_sequenceKey→lF,wpAny_setEntries_of→uI,wpAny_setField→oB,wpAny_setState_of→lH,wpAny_specialOf→cV,wpAny_standAt→hV,wpAny_truthy_bool→pG,wpAny_typeNameOfWhole_keyiter→iO,wpAny_typeNameOf_keyiter→pL,wpAny_typeOf→jX,wpAny→aH
open PySem.Around renaming under_plainId→ew
open PySem.BindsTo renaming of_defaults→DD
open PySem.BoolOp renaming And→FH,Or→Jf
open PySem.Calls renaming call_function_entry→ng
open PySem.Challenge renaming pw_nz0260_01→gQ
open PySem.Code renaming builtin→DE,quiet_builtin→Jg
open PySem.Data renaming fields→ib,seq→tX
open PySem.Expr renaming Name→DN
open PySem.F renaming called_set→rA,entry_dict_get→zj,plain_set_new→AK,slot_dict_get→pu,slot_dict_ne→Ba,slot_set_iter→AL
open PySem.FuncBody renaming stmts→gS
open PySem.Heap renaming ExtBut→vD,SameBut→kS,get?_none_of_le→dd,get?_push_of_some→aA,get?_push_size→aN,get?_update_other→DF,get?_update_self→dI,lt_size→b8
open PySem.Heap.SameBut renaming refl→qn,update→dB
open PySem.IntMulOk renaming of_left→FI,of_le→Jh,of_right→jZ
open PySem.Keeper renaming boundFrame→s8,frame→AN,machine→xn
open PySem.NameKind renaming free→xo
open PySem.PyData renaming keyHash→qo
open PySem.Sem renaming bind_eq_wrap'→iW,bind_eq_wrap→vF,onRaise_eq_wrap→Ji,wp_mono→ox,wrap_wrap→jT
open PySem.Str renaming ofString→bR
open PySem.Value renaming bool→HT,int→eA,isInt→uY,none→c8,ref→dp,str→mO,type→cQ
open PySem.Value.ref renaming inj→vG
open PySem.W renaming Frag→f_,SharedT→kU,TopRead→nS,absHeap→DG,dictOf→nh,emptyDict→qG,handedIn→xA,instObj→ge,sortI→nk,tabObj→td,topRun→DO,typeIs_bytes→gB
open PySem.W.WShape renaming has→sf
open PySem.W.X renaming s_again→rB,wake_any→Bc
open PySem.W.X.SegX renaming mono→ef
open PySem.callAny renaming viaDunder→FK
open PySem.pickOrder renaming go→rE
open Std.Legacy.Range renaming forIn_eq_forIn_range'→mW
open UInt8 renaming ofNat→eC
open _root_ renaming Array→bD,Bool→aC,Decidable→fA,List→ae,Option→aq,String→cR,UInt8→bX,Unit→e7,absurd→bt,beq_eq_false_iff_ne→d9,beq_iff_eq→be,beq_self_eq_true→qK,bne_iff_ne→rI,bne_self_eq_false→lI,cond→aY,congrArg→ah,decEq→nO,decide_eq_false→dh,decide_eq_true_eq→cW,decide_eq_true→cy,if_neg→bC,if_pos→dj,of_decide_eq_false→oC,of_decide_eq_true→a4,reduceIte→zk
open PySem PySem.W PySem.Spec PySem.Calls PyProof.Rows
set_option Elab.async false
set_option linter.all false
set_option maxRecDepth 100000
set_option genCtorIdx false
set_option genInjectivity false
set_option genSizeOf false
noncomputable section
namespace Mine
noncomputable def oY(p:zi)(xs:ae bM):aC:=p.posonlyargs.isEmpty&&(p.vararg.isNone&&(p.kwonlyargs.isEmpty&&(p.kwarg.isNone&&(p.args.map (·.arg)==xs))))
noncomputable def az:ae bM->ae Arg->ae Arg
 |[],_=>[]
 |x::xs,l=>{l.headD ⟨x,none,default⟩ with arg:=x}::az xs l.tail
noncomputable def vz:ae bM->ae am->ae am
 |[],_=>[]
 |_::xs,l=>l.headD .none::vz xs l.tail
theorem F7:∀l:ae Arg,l=az (l.map (·.arg)) l
 |[]=>rfl
 |⟨x,t,p⟩::l=>ah (Arg.mk x t p::·) (F7 l)
theorem vA:∀{xs:ae bM} {l:ae am},l.length=xs.length->l=vz xs l
 |[],[]=>λ aa=>rfl
 |_::_,[]=>λ h=>nomatch h
 |[],_::_=>λ h=>nomatch h
 |_::_,v::l=>λ h=>ah (v::·) (vA (eG h))
def pz(p:zi)(xs:ae bM):zi:={posonlyargs:=[],args:=az xs p.args,vararg:=none,kwonlyargs:=[],kw_defaults:=p.kw_defaults,kwarg:=none,defaults:=p.defaults}
theorem YA{p:zi}{xs:ae bM}(h:oY p xs=true):p=pz p xs:=by
 obtain⟨a,b,c,d,e,f,g⟩:=p
 have h:=cz.mp h
 have h2:=cz.mp h.2
 have h3:=cz.mp h2.2
 have h4:=cz.mp h3.2
 obtain rfl:a=[]:=uV.mp h.1
 obtain rfl:c=none:=jc.mp h2.1
 obtain rfl:d=[]:=uV.mp h3.1
 obtain rfl:f=none:=jc.mp h4.1
 obtain rfl:b.map (·.arg)=xs:=be.mp h4.2
 exact ah (λ b=>Arguments.mk [] b none [] e none g) (F7 b)
abbrev Xb(fd:d5)(xs:ae bM)(d:am):d5:={fd with params:=pz fd.params xs,defaults:=d}
theorem KV{fd:d5}{xs:ae bM}{d:am}(hp:oY fd.params xs=true)(hd:fd.defaults=d):fd=Xb fd xs d:=congr (ah (λ p d=>{fd with params:=p,defaults:=d}) (YA hp)) hd
def Q_(xs:ae bM):Prop:=∀(fd:d5) (vs:ae am),bindArgs (Xb fd xs .none) ⟨vz xs vs,[]⟩=pure (xs.zip (vz xs vs))
theorem uo{fd:d5}{xs:ae bM}(hb:Q_ xs)(hp:oY fd.params xs=true)(hd:fd.defaults= .none)(s:ar)(vals:ae am)(l:vals.length=xs.length):mN s fd ⟨vals,[]⟩ (xs.zip vals):=by
 have h:=hb fd vals
 rw[← vA l,← KV hp hd] at h
 exact .of_eq h
noncomputable def NL:ae bM:=["self","many","state"]
theorem Ep{fd:d5}{T:au}{o:Obj}{n:Nat}{v:am}(hp:oY fd.params NL=true)(hd:fd.defaults= .ref T)(s:ar)(ho:s.heap.get? T=af o)(hs:o.data= .seq #[v] n)
  (vals:ae am) (l:vals.length=2):mN s fd ⟨vals,[]⟩ (NL.zip (vals++[v])):=by
 rw[KV hp hd,vA (xs:=["self","many"]) l]
 exact DD (fd:=Xb fd NL (.ref T)) rfl ho hs rfl (by kernel_rfl)
theorem KA{fd:d5}{T:au}{o:Obj}{n:Nat}{v:am}(hp:oY fd.params NL=true)(hd:fd.defaults= .ref T)(s:ar)(ho:s.heap.get? T=af o)(hs:o.data= .seq #[v] n)
  (vals:ae am) (l:vals.length=3):mN s fd ⟨vals,[]⟩ (NL.zip vals):=by
 rw[KV hp hd,vA (xs:=NL) l]
 exact DD (fd:=Xb fd NL (.ref T)) rfl ho hs rfl (by kernel_rfl)
theorem sO{fd:d5}{xs:ae bM}(hb:Q_ xs)(hp:oY fd.params xs=true)(hd:fd.defaults= .none)(s:ar)(vals:ae am)(l:vals.length+0=xs.length):mN s fd ⟨vals,[]⟩ (xs.zip (vals++[])):=by
 rw[bQ]; exact uo hb hp hd s vals l
noncomputable def noV(v:am):aC:=match v with
 | .none=>true
 |_=>false
theorem Mc{v:am}(h:noV v=true):v= .none:=by
 rcases v
 case none=>rfl
 all_goals exact ay h
noncomputable def rN:ae cR:=["bytearray.__contains__","bytearray.__mod__","bytearray.__rmod__","_struct.pack_into.held","bytearray.find.held"]++Builtin.Bytes.decodersThatHold
def CR:vC->aC
 | .builtin id _=>!rN.contains id
 |_=>true
def ZC(Γ:PySem.Ctx):Prop:=CR Γ.code=true/\∀x∈Γ.below,CR x.1=true
def cK{α:Type}(J:aC)(M:ir)(A:bn)(t:ie α)(Q:α->ar->Prop)(s:ar):Prop:=
 ∀Γ p,Γ.In A->(J=true->ZC Γ)->Sem.wp M Γ t (λ a aa s'=>Q a s') (λ aa aa aa=>False) p s
def dO(J:aC)(M:ir)(A:bn)(c:vC)(R:iP->ar->Prop)(s:ar):Prop:=
 ∀Γ p,Γ.code=c->Γ.Below A->(J=true->ZC Γ)->wpCode M Γ R p s
namespace X
section
variable{α β:Type}{J:aC}{M:ir}{A:bn}{s:ar}{env:Env}
theorem any{t:ie α}{Q:α->ar->Prop}(h:aH M A t Q (λ aa aa=>False) s):cK J M A t Q s:=λ Γ p a aa=>h Γ p a
theorem back{t:ie α}{Q:α->ar->Prop}(h:cK false M A t Q s):aH M A t Q (λ aa aa=>False) s:=λ Γ p a=>h Γ p a (λ e=>(nomatch e))
theorem less{t:ie α}{Q:α->ar->Prop}(h:cK false M A t Q s):cK J M A t Q s:=any (back h)
theorem jt{t:ie α}{Q:α->ar->Prop}(j:J=true)(h:cK true M A t Q s):cK J M A t Q s:=j▸h
theorem mono{t:ie α}{Q Q':α->ar->Prop}(h:cK J M A t Q s)(hQ:∀a s,Q a s->Q' a s):cK J M A t Q' s:=
 λ Γ p a c=>ox M Γ t (λ a aa s=>hQ a s) (λ aa aa aa f=>f) p s (h Γ p a c)
theorem ret{a:α}{Q:α->ar->Prop}(h:Q a s):cK J M A (pure a) Q s:=λ aa aa aa aa=>h
theorem cL{m:ie α}{f:α->ie β}{Q:β->ar->Prop}(h:cK J M A m (λ a s'=>cK J M A (f a) Q s') s):cK J M A (m>>=f) Q s:=λ Γ p a c=>by
 rw[Sem.wp_bind']
 exact ox M Γ m (λ aa p' s' h'=>h' Γ p' a c) (λ aa aa aa h'=>h') p s (h Γ p a c)
theorem holds{vs:ae am}{m:ie α}{Q:α->ar->Prop}(h:cK J M A m Q s):cK J M A (holding vs m) Q s:=λ Γ p a c=>by rw[Sem.wp_holding]; exact h Γ p a c
theorem IL{vs:ae am}{m:ie am}{Q:am->ar->Prop}(h:cK J M A m Q s):cK J M A (DI vs m) Q s:=λ Γ p a c=>by rw[Sem.wp_operate]; exact h Γ p a c
theorem raises{m:ie α}{k:am->ie e7}{Q:α->ar->Prop}(h:cK J M A m Q s):cK J M A (m.onRaise k) Q s:=λ Γ p a c=>by
 rw[Sem.wp_onRaise]
 exact ox M Γ m (λ aa aa aa h'=>h') (λ aa aa aa f=>f.elim) p s (h Γ p a c)
theorem at_{pos:c7}{f:e7->ie β}{Q:β->ar->Prop}(h:cK J M A (f ()) Q s):cK J M A (di pos>>=f) Q s:=cL (any (hV h))
theorem WX{t:ie α}{a:α}{Q:α->ar->Prop}(e:t=pure a)(h:Q a s):cK J M A t Q s:=by rw[e]; exact ret h
theorem drops{vs:ae am}{keep:ae am}{f:e7->ie β}{Q:β->ar->Prop}(h:cK J M A (f ()) Q s):cK J M A (release vs keep>>=f) Q s:=cL (any (HV h))
theorem ud{Γ:PySem.Ctx}{c:vC}{h:aq am}{p:c7}(ok:CR c=true)(x:J=true->ZC Γ):J=true->ZC (Γ.enter c h p):=λ j=>by
 obtain⟨a,b⟩:=x j
 exact⟨ok,λ y hy=>by
  rcases bW.mp hy with rfl|hy
  ·exact a
  ·exact b y hy⟩
theorem runs{c:vC}{h:aq am}{Q:mo->ar->Prop}(ok:CR c=true)
  (hc:dO J M (A.mark h) c (λ r s'=>match r with | .ok f=>Q f s' | .error _=>False) s) (ZZ:h≠af byPass:=by nofun):cK J M A (run c h) Q s:=λ Γ p a x=>by
 rw[Sem.wp_run]
 have:=hc (Γ.enter c h p) p rfl (a.enter c h p ZZ) (ud ok x)
 exact this
theorem YM{c:vC}{Q:am->ar->Prop}(ok:CR c=true)
  (hc:dO J M A c (λ r s'=>match r with | .ok (.ret v)=>Q v s'|_=>False) s):cK J M A (runValue c) Q s:=λ Γ p a x=>by
 rw[Sem.wp_runValue]
 have h:=hc (Γ.enter c none p) p rfl (a.enter c none p (by intro x; cases x)) (ud ok x)
 exact wpCode_mono (λ r s' z=>by rcases r with _|(_|_|_|_)<;>exact z) h
theorem calls{f:am}{pos:ae am}{kw:ae (bM×am)}{Q:am->ar->Prop}
  (hc:dO J M A (.call f ⟨pos,kw⟩) (λ r s'=>match r with | .ok (.ret v)=>Q v s'|_=>False) s):cK J M A (call f pos kw) Q s:=YM rfl hc
theorem BL{c:vC}{R:iP->ar->Prop}(h:codeAny M A c R s):dO J M A c R s:=λ Γ p e b aa=>h Γ p e b
theorem Ih{c:vC}{R:iP->ar->Prop}(h:dO false M A c R s):codeAny M A c R s:=λ Γ p e b=>h Γ p e b (λ e=>(nomatch e))
theorem eh{c:vC}{R R':iP->ar->Prop}(h:dO J M A c R s)(hR:∀r s,R r s->R' r s):dO J M A c R' s:=
 λ Γ p e b x=>wpCode_mono hR (h Γ p e b x)
theorem tree{c:vC}{R:iP->ar->Prop}
  (h:cK J M (A.under c) (M.den c) (λ fin s'=>match fin with | .done f=>R (.ok f) s' | .again c'=>c'.quiet=true/\CR c'=true/\dO J M A c' R s') s):dO J M A c R s:=λ Γ p hc NG x=>by
 rw[wpCode_iff_wp,hc]
 refine ox M Γ _ (λ fin p' s' h'=>?_) (λ aa aa aa h'=>h'.elim) p s (h Γ p (hc▸NG.in) x)
 cases fin with
 |done f=>exact h'
 |again c'=>exact⟨h'.1,h'.2.2 (Γ.goto c') p' rfl (NG.goto c') λ j=>⟨h'.2.1,(x j).2⟩⟩
theorem BinOp{l op r pos}{Q:am->ar->Prop}
  (h:cK J M A (eval l env) (λ a s₁=>cK J M A (eval r env) (λ b bp=>cK J M A (kM op a b) Q bp) s₁) s):cK J M A (eval (.BinOp l op r pos) env) Q s:=by
 rw[eval_BinOp]
 exact cL (mono h λ a s₁ bH=>cL (holds (mono bH λ b bp cU=>at_ (IL cU))))
theorem Bl{l op r pos}{Q:am->ar->Prop}(hm:pJ op r=false)
  (h:cK J M A (eval l env) (λ a s₁=>cK J M A (eval r env) (λ b bp=>cK J M A (dw op a b) Q bp) s₁) s):cK J M A (eval (.Compare l [op] [r] pos) env) Q s:=by
 rw[eval_Compare1,Jk hm]
 exact cL (mono h λ a s₁ bH=>cL (holds (mono bH λ b bp cU=>at_ (IL cU))))
theorem isTrue_Compare1{l op r pos whole}{Q:aC->ar->Prop}(hm:pJ op r=false)
  (h:cK J M A (eval l env) (λ a s₁=>cK J M A (eval r env) (λ b bp=>cK J M A (dw op a b) (λ c fS=>cK J M A (truthy c) Q fS) bp) s₁) s):
  cK J M A (isTrue (.Compare l [op] [r] pos) env whole) Q s:=by
 rw[PySem.isTrue_Compare1,Jk hm]
 exact cL (mono h λ a s₁ bH=>cL (holds (mono bH λ b bp cU=>at_ (cL (IL (mono cU λ c fS fE=>holds fE))))))
theorem zY{e:aB}{whole:ie am}{Q:aC->ar->Prop}(he:isTrue e env whole=(do let v ← whole; di e.pos; holding [v] (truthy v)))
  (h:cK J M A whole (λ v s₁=>cK J M A (truthy v) Q s₁) s):cK J M A (isTrue e env whole) Q s:=by
 rw[he]
 exact cL (mono h λ v s₁ bH=>at_ (holds bH))
theorem EK{x:aB}{pos:c7}{whole:ie am}{Q:aC->ar->Prop}(h:cK J M A (isTrue x env (eval x env)) (λ b s₁=>Q (!b) s₁) s):
  cK J M A (isTrue (.UnaryOp .Not x pos) env whole) Q s:=by
 rw[arm_isTrue_UnaryOp]
 exact cL (mono h λ b s₁ bH=>ret bH)
theorem Us{op:UnaryOp}{x:aB}{pos:c7}{Q:am->ar->Prop}(h:cK J M A (eval x env) (λ v s₁=>cK J M A (unaryOp op v) Q s₁) s):
  cK J M A (eval (.UnaryOp op x pos) env) Q s:=by
 rw[arm_eval_UnaryOp]
 exact cL (mono h λ v s₁ bH=>at_ (holds bH))
theorem IfExp{t a b:aB}{pos:c7}{Q:am->ar->Prop}
  (h:cK J M A (isTrue t env (eval t env)) (λ c s₁=>aY c (cK J M A (eval a env) Q s₁) (cK J M A (eval b env) Q s₁)) s):cK J M A (eval (.IfExp t a b pos) env) Q s:=by
 rw[arm_eval_IfExp]
 exact cL (mono h λ c s₁ bH=>by cases c<;>exact bH)
theorem If{t pos}{a b:ae fW}{Q:mo->ar->Prop}
  (h:cK J M A (isTrue t env (eval t env)) (λ c s₁=>aY c (cK J M A (execs a env) Q s₁) (cK J M A (execs b env) Q s₁)) s):cK J M A (exec (.If t a b pos) env) Q s:=by
 rw[exec_If]
 exact at_ (cL (mono h λ c s₁ bH=>by cases c<;>exact bH))
theorem k9{pos:c7}{e:aB}{rest:ae aB}{Q:ae am->ar->Prop}(he:fw (e::rest) env=(false,eval e env)::fw rest env)
  (h:cK J M A (eval e env) (λ v s₁=>cK J M A (spliced (backTo pos (fw rest env))) (λ vs bp=>Q (v::vs) bp) s₁) s):cK J M A (spliced (backTo pos (fw (e::rest) env))) Q s:=by
 rw[he]
 show cK J M A (do
  let v ← eval e env
  let here ← (pure [v]:ie (ae am))
  return here++(← holding here (spliced (backTo pos (fw rest env))))) Q s
 exact cL (mono h λ v s₁ bH=>cL (ret (cL (holds (mono bH λ vs bp cU=>ret cU)))))
theorem L8{es:ae aB}{k:Nat}{pos:c7}{Q:am->ar->Prop}
  (h:cK J M A (spliced (backTo pos (fw es env))) (λ vs s₁=>vs.length<=f6/\Q (.ref s₁.heap.objs.size) {s₁ with heap:=s₁.heap.push {cls:= .type "tuple",data:= .seq vs.toArray}}) s):
  cK J M A (eval (.Tuple es k pos) env) Q s:=by
 rw[arm_eval_Tuple]
 exact at_ (cL (mono h λ vs s₁ bH=>any (cO bH.2 (by show vs.toArray.size<=f6; rw[cS]; exact bH.1))))
theorem nList{es:ae aB}{pos:c7}{Q:am->ar->Prop}
  (h:cK J M A (spliced (backTo pos (fw es env))) (λ vs s₁=>vs.length<=f6/\Q (.ref s₁.heap.objs.size) {s₁ with heap:=s₁.heap.push {cls:= .type "list",data:= .seq vs.toArray}}) s):
  cK J M A (eval (.List es pos) env) Q s:=by
 rw[arm_eval_List]
 exact at_ (cL (mono h λ vs s₁ bH=>any (cO bH.2 (by show vs.toArray.size<=f6; rw[cS]; exact bH.1))))
theorem t7{e pos}{Q:mo->ar->Prop}(h:cK J M A (eval e env) (λ v=>Q (.ret v)) s):cK J M A (exec (.Return (af e) pos) env) Q s:=by
 rw[exec_Return_some]
 exact at_ (cL (mono h λ v s₁ bH=>ret bH))
theorem Bi{x pos' value pos}{Q:mo->ar->Prop}(hs:oy value (af (.Name x pos')) pos.line env=pure false)
  (h:cK J M A (eval value env) (λ v s₁=>cK J M A (t3 env x v) (λ aa=>Q .next) s₁) s):cK J M A (exec (.Assign [.Name x pos'] value pos) env) Q s:=by
 rw[exec_Assign_Name env x pos' value pos hs]
 exact at_ (cL (mono h λ v s₁ bH=>at_ (cL (λ Γ p a c=>by rw[Sem.wp_bindName]; exact(mono bH λ aa bp cU=>ret cU) Γ p a c))))
theorem vK{x pos' op value pos}{Q:mo->ar->Prop}
  (h:cK J M A (loadName env x) (λ old s₁=>cK J M A (eval value env) (λ v bp=>cK J M A (ms op old v) (λ r fS=>cK J M A (t3 env x r) (λ aa=>Q .next) fS) bp) s₁) s):
  cK J M A (exec (.AugAssign (.Name x pos') op value pos) env) Q s:=by
 rw[exec_AugAssign_Name]
 exact at_ (cL (mono h λ old s₁ bH=>cL (holds (mono bH λ v bp cU=>at_ (cL (IL (mono cU λ r fS fE=>at_ (cL (λ Γ p a c=>by
  rw[Sem.wp_bindName]; exact(mono fE λ aa bp cU=>ret cU) Γ p a c)))))))))
theorem tj{o attr pos' value pos}{Q:mo->ar->Prop}(hs:oy value (af (.Attribute o attr pos')) pos.line env=pure false)
  (h:cK J M A (eval value env) (λ v s₁=>cK J M A (eval o env) (λ ov bp=>cK J M A (xC ov attr v) (λ aa=>Q .next) bp) s₁) s):
  cK J M A (exec (.Assign [.Attribute o attr pos'] value pos) env) Q s:=by
 rw[plainObj_exec_Assign_Attribute o attr pos' value pos hs]
 refine at_ (cL (mono h λ v s₁ bH=>?_))
 rw[assign_Attribute]
 exact cL (cL (holds (mono bH λ ov bp cU=>at_ (cL (holds (mono cU λ aa fS fE=>any (HV (ret fE))))))))
theorem qL{o value:aB}{attr:bM}{AB pos:c7}{op:cF}{Q:mo->ar->Prop}
  (h:cK J M A (eval o env) (λ ov s₁=>cK J M A (getAttr ov attr true) (λ old bp=>cK J M A (eval value env) (λ v fS=>cK J M A (ms op old v) (λ new sY=>
      cK J M A (xC ov attr new) (λ aa=>Q .next) sY) fS) bp) s₁) s):cK J M A (exec (.AugAssign (.Attribute o attr AB) op value pos) env) Q s:=by
 have e:exec (.AugAssign (.Attribute o attr AB) op value pos) env=(do
   di pos
   let ov ← eval o env
   let new ← holding [ov] do
    di AB.atName
    let old ← getAttr ov attr true
    let v ← holding [old] (eval value env)
    di pos
    DI [old,v] (ms op old v)
   di AB.atName
   holding [new,ov] (xC ov attr new)
   release [new,ov] []
   pure .next):=rfl
 rw[e]
 exact at_ (cL (mono h λ ov s₁ bH=>cL (holds (at_ (cL (mono bH λ old bp cU=>cL (holds (mono cU λ v fS fE=>at_ (IL (mono fE λ new sY nH=>at_ (cL (holds (mono nH λ aa QN Ci=>drops (ret Ci))))))))))))))
end
end X
namespace X
section
variable{α β:Type}{J:aC}{M:ir}{A:bn}{s:ar}{env:Env}
theorem execs_cons{st rest}{Q:mo->ar->Prop}(h:cK J M A (exec st env) (λ f s'=>match f with | .next=>cK J M A (execs rest env) Q s'|f=>Q f s') s):
  cK J M A (execs (st::rest) env) Q s:=by
 rw[PySem.execs_cons]
 exact cL (mono h λ f s₁ bH=>by cases f<;>first|exact bH|exact ret bH)
theorem While{t b pos}{Q:mo->ar->Prop}(h:dO J M A (.whileLoop t b [] env) (λ r s'=>match r with | .ok f=>Q f s' | .error _=>False) s):
  cK J M A (exec (.While t b [] pos) env) Q s:=by
 rw[exec_While]
 exact at_ (raises (runs rfl h))
theorem For{t it b pos}{Q:mo->ar->Prop}(hs:∀x,d_ it env x=pure x)
  (h:cK J M A (eval it env) (λ x s₁=>cK J M A (iz x) (λ i bp=>dO J M A (.forLoop t i b [] env) (λ r s'=>match r with | .ok f=>Q f s' | .error _=>False) bp) s₁) s):
  cK J M A (exec (.For t it b [] pos) env) Q s:=by
 rw[exec_For]
 exact at_ (cL (mono h λ x s₁ bH=>cL (WX (hs x) (at_ (cL (holds (mono bH λ i bp cU=>raises (runs rfl cU))))))))
theorem keeps{vs:ae am}{m:ie α}{Q:α->ar->Prop}(h:cK J M A m Q s):cK J M A (m.keep vs) Q s:=λ Γ p a c=>by rw[Sem.wp_keep]; exact h Γ p a c
theorem Tt{f:am}{args:ae (aC×ie am)}{Q:Args->ar->Prop}(hp:args.any (·.1)=false)(h:cK J M A (spliced args) (λ vs s'=>Q ⟨vs,[]⟩ s') s):
  cK J M A (evalArgs f true args []) Q s:=by
 match args,hp with
 |[],_=>
  unfold evalArgs
  show cK J M A (spliced []>>=_) Q s
  refine cL (mono h λ vs s₁ bH=>cL (ret ?_))
  refine holds ?_
  exact cL (ret (cL (ret (ret bH))))
 |(false,x)::r,_=>
  unfold evalArgs
  show cK J M A (spliced ((false,x)::r)>>=_) Q s
  refine cL (mono h λ vs s₁ bH=>?_)
  refine holds ?_
  exact cL (ret (cL (ret (ret bH))))
theorem t_{pos:c7}{f:am}{first:ae am}{args:ae (aC×ie am)}{Q:am->ar->Prop}{Pm:Heap->Prop}(hp:args.any (·.1)=false)
  (hk:∀h,Pm h->∃k,(k=AN\/k=xn\/k=s8)/\Looks M h (keeperOf f) k)
  (h:cK J M A (spliced args) (λ vs s₁=>Pm s₁.heap/\cK J M A (call f (first++vs) []) Q s₁) s):cK J M A (callWith pos f first args []) Q s:=by
 unfold callWith
 refine cL (holds (Tt hp (mono h λ vs s₁ bH=>at_ ?_)))
 obtain⟨k,ZW,L⟩:=hk _ bH.1
 have hp2:(args.any (·.1)||([]:ae (aq bM×ie am)).any (·.1.isNone))=false:=by rw[hp]; rfl
 rw[hp2]
 dsimp only
 refine cL (any (L.here ?_))
 have tail:∀{t:ie am},cK J M A t Q s₁->cK J M A (t>>=λ r=>holding [r] point>>=λ aa=>pure r) Q s₁:=
  λ ht=>cL (mono ht λ r bp hr=>cL (holds (any (AU (ret hr)))))
 have marked (mk:am):cK J M A (callMarked mk f (first++vs) []) Q s₁:=by unfold callMarked; exact keeps bH.2
 rcases ZW with rfl|rfl|rfl<;>dsimp only<;>first|exact tail bH.2|(split<;>first|exact tail bH.2|exact tail (marked _))
theorem pT{id:bM}{p pos:c7}{args:ae aB}{Q:am->ar->Prop}
  (h:cK J M A (eval (.Name id p) env) (λ f s₁=>cK J M A (callWith pos f [] (backTo pos (fw args env)) []) Q s₁) s):cK J M A (eval (.Call (.Name id p) args [] pos) env) Q s:=by
 rw[arm_eval_Call_Name']
 exact cL (mono h λ aa aa z=>z)
theorem BI{o:aB}{name:bM}{apos pos:c7}{args:ae aB}{pl:ie aC}{Q:am->ar->Prop}
  (he:eval (.Call (.Attribute o name apos) args [] pos) env=(do
   let ov ← eval o env
   di apos.atName
   let (f,first) ← holding [ov] (fD ov name pl)
   callWith pos f first (backTo pos (fw args env)) []))
  (h:cK J M A (eval o env) (λ ov s₁=>cK J M A (fD ov name pl) (λ fx bp=>cK J M A (callWith pos fx.1 fx.2 (backTo pos (fw args env)) []) Q bp) s₁) s):
  cK J M A (eval (.Call (.Attribute o name apos) args [] pos) env) Q s:=by
 rw[he]
 exact cL (mono h λ ov s₁ bH=>at_ (cL (holds (mono bH λ fx bp cU=>cU))))
theorem Attribute{o:aB}{attr:bM}{pos:c7}{Q:am->ar->Prop}
  (he:eval (.Attribute o attr pos) env=(do
   let v ← eval o env
   di pos.atName
   let r ← holding [v] (getAttr v attr true)
   iy o v r
   pure r))
  (h:cK J M A (eval o env) (λ v s₁=>cK J M A (getAttr v attr true) Q s₁) s) (hl:∀v r (Q:e7->ar->Prop) s,Q () s->aH M A (iy o v r) Q (λ aa aa=>False) s):cK J M A (eval (.Attribute o attr pos) env) Q s:=by
 rw[he]
 exact cL (mono h λ v s₁ bH=>at_ (cL (holds (mono bH λ r bp cU=>cL (any (hl v r _ _ (ret cU)))))))
theorem Subscript{o i:aB}{pos:c7}{Q:am->ar->Prop}
  (h:cK J M A (eval o env) (λ v s₁=>cK J M A (eval i env) (λ j bp=>cK J M A (kK o i v j) Q bp) s₁) s):cK J M A (eval (.Subscript o i pos) env) Q s:=by
 rw[eval_Subscript]
 exact cL (mono h λ v s₁ bH=>cL (holds (mono bH λ j bp cU=>at_ cU)))
theorem tt{o i:aB}{pos':c7}{value:aB}{pos:c7}{Q:mo->ar->Prop}(hs:oy value (af (.Subscript o i pos')) pos.line env=pure false)
  (h:cK J M A (eval value env) (λ v s₁=>cK J M A (eval o env) (λ ov bp=>cK J M A (eval i env) (λ iv fS=>cK J M A (eP ov iv v) (λ aa=>Q .next) fS) bp) s₁) s):
  cK J M A (exec (.Assign [.Subscript o i pos'] value pos) env) Q s:=by
 rw[exec_Assign_Subscript o i pos' value pos hs]
 refine at_ (cL (mono h λ v s₁ bH=>?_))
 rw[assign_Subscript]
 exact cL (cL (holds (mono bH λ ov bp cU=>cL (holds (mono cU λ iv fS fE=>at_ (cL (holds (mono fE λ aa sY nH=>any (HV (ret nH))))))))))
theorem qM{o i value:aB}{AB pos:c7}{op:cF}{Q:mo->ar->Prop}
  (hi:∀ov iv new,augStore i ov iv new=(do holding [new,ov,iv] (eP ov iv new); release [new,ov,iv] []; pure .next))
  (h:cK J M A (eval o env) (λ ov s₁=>cK J M A (eval i env) (λ iv bp=>cK J M A (getItem ov iv) (λ old fS=>cK J M A (eval value env) (λ v sY=>cK J M A (ms op old v) (λ new QN=>
      cK J M A (eP ov iv new) (λ aa=>Q .next) QN) sY) fS) bp) s₁) s):cK J M A (exec (.AugAssign (.Subscript o i AB) op value pos) env) Q s:=by
 have e:exec (.AugAssign (.Subscript o i AB) op value pos) env=(do
   di pos
   let ov ← eval o env
   let iv ← holding [ov] (eval i env)
   let new ← holding [ov,iv] do
    di AB
    let old ← getItem ov iv
    let v ← holding [old] (eval value env)
    di pos
    DI [old,v] (ms op old v)
   di AB
   augStore i ov iv new):=rfl
 rw[e]
 refine at_ (cL (mono h λ ov s₁ bH=>cL (holds (mono bH λ iv bp cU=>cL (holds (at_ (cL (mono cU λ old fS fE=>cL (holds (mono fE λ v sY nH=>at_ (IL (mono nH λ new QN Ci=>at_ ?_))))))))))))
 rw[hi]
 exact cL (holds (mono Ci λ aa afY abu=>drops (ret abu)))
theorem xG{targets:ae aB}{value:aB}{pos:c7}{Q:mo->ar->Prop}(hs:HU targets value pos.line env=pure false)(hw:i6 targets value env=pure none)
  (h:cK J M A (eval value env) (λ v s₁=>cK J M A (assignAll v ((jE targets env).map (·.2))) (λ aa=>Q .next) s₁) s):cK J M A (exec (.Assign targets value pos) env) Q s:=by
 rw[exec_Assign_arm]
 refine at_ ?_
 rw[hs]
 refine cL (ret ?_)
 rw[bC (by decide)]
 refine cL (mono h λ v s₁ bH=>?_)
 rw[hw]
 exact cL (ret (cL (mono bH λ aa aa z=>ret z)))
theorem vJ{targets:ae aB}{value:aB}{pos:c7}{names:ae bM}{Q:mo->ar->Prop}(hs:HU targets value pos.line env=pure false)(hw:i6 targets value env=pure (af names))
  (h:cK J M A (eval value env) (λ v s₁=>cK J M A (unpackItems v names.length none) (λ items bp=>cK J M A (gj (names.reverse.map λ n=>mS env n) items.reverse) (λ aa=>Q .next) bp) s₁) s):
  cK J M A (exec (.Assign targets value pos) env) Q s:=by
 rw[exec_Assign_arm]
 refine at_ ?_
 rw[hs]
 refine cL (ret ?_)
 rw[bC (by decide)]
 refine cL (mono h λ v s₁ bH=>?_)
 rw[hw]
 refine cL (ret ?_)
 show cK J M A (do rule "assign.swapped-stores"; let items ← unpackItems v names.length none; gj (names.reverse.map λ n=>mS env n) items.reverse; pure .next) Q s₁
 exact cL (any (mv (cL (mono bH λ items bp cU=>cL (mono cU λ aa aa z=>ret z)))))
end
section
variable{J:aC}{prog:aK}{w:bw}{A:bn}{s:ar}{R:iP->ar->Prop}
theorem whileLoop{t b env}(I:Nat->ar->Prop)
  (turn:∀n s,I n s->cK J (aE prog w) A (isTrue t env (eval t env)) (λ c bp=>aY c (cK J (aE prog w) A (execs b env) (λ f fS=>match f with
      | .next | .cont=>∃m,m < n/\I m fS
      | .brk=>R (.ok .next) fS
      | .ret v=>R (.ok (.ret v)) fS) bp) (R (.ok .next) bp)) s)
  (n:Nat) (h:I n s):dO J (aE prog w) A (.whileLoop t b [] env) R s:=by
 induction n using xz generalizing s with
 |ind n ih=>
  refine tree ?_
  show cK J _ A ((whileTurn t b [] env).onRaise (λ x=>do qJ x env; kW x)) _ s
  refine raises ?_
  unfold whileTurn
  refine cL (mono (turn n s h) λ c bp cU=>?_)
  cases c with
  |false=>exact cL (any (wpAny_execs_nil (ret cU)))
  |true=>
   refine cL (mono cU λ f fS fE=>?_)
   cases f with
   |next=>obtain⟨m,hm,hI⟩:=fE; exact ret ⟨rfl,rfl,ih m hm hI⟩
   |cont=>obtain⟨m,hm,hI⟩:=fE; exact ret ⟨rfl,rfl,ih m hm hI⟩
   |brk=>exact ret fE
   |ret v=>exact ret fE
theorem forLoop{t it b env}(I:Nat->ar->Prop)
  (turn:∀n s,I n s->cK J (aE prog w) A (gG it) (λ r s₁=>match r with
   |none=>R (.ok .next) s₁
   |some v=>cK J (aE prog w) A (du t it v) (λ aa M9=>cK J (aE prog w) A (assign t env v) (λ aa bp=>cK J (aE prog w) A (execs b env) (λ f fS=>match f with
      | .next | .cont=>∃m,m < n/\I m fS
      | .brk=>R (.ok .next) fS
      | .ret v=>R (.ok (.ret v)) fS) bp) M9) s₁) s)
  (n:Nat) (h:I n s):dO J (aE prog w) A (.forLoop t it b [] env) R s:=by
 induction n using xz generalizing s with
 |ind n ih=>
  refine tree ?_
  show cK J _ A ((forTurn t it b [] env).onRaise (λ x=>do qJ x env; kW x)) _ s
  refine raises ?_
  unfold forTurn
  refine at_ (cL (raises (mono (turn n s h) λ r bp cU=>?_)))
  cases r with
  |none=>exact ret ⟨rfl,rfl,BL (codeAny_block (wpAny_execs_nil cU))⟩
  |some v=>
   refine cL (mono cU λ aa fS fE=>cL (mono fE λ aa sY nH=>cL (mono nH λ f QN Ci=>?_)))
   cases f with
   |next=>obtain⟨m,hm,hI⟩:=Ci; exact ret ⟨rfl,rfl,ih m hm hI⟩
   |cont=>obtain⟨m,hm,hI⟩:=Ci; exact ret ⟨rfl,rfl,ih m hm hI⟩
   |brk=>exact ret Ci
   |ret v=>exact ret Ci
theorem func{body env}
  (h:cK J (aE prog w) (A.deeper env) (execs body env) (λ f s'=>R (.ok (.ret (match f with | .ret v=>v|_=> .none))) s') s):dO J (aE prog w) A (.func body env) R s:=by
 refine tree ?_
 show cK J _ (A.deeper env) (do point; match ← (execs body env).onRaise (leaving env) with | .ret v=>PySem.ret v|_=>PySem.ret .none) _ s
 exact cL (any (AU (cL (raises (mono h λ f s' h'=>by cases f<;>exact ret h')))))
theorem Kk{a:au}{o:Obj}{fd:d5}{body:ae fW}{vals:ae am}{binds:ae (bM×am)}
  (uj:A.depth < tg) (ho:s.heap.get? a=af o) (K9:o.data= .func fd) (Lf:s.heap.NoLimit) (Xk:s.heap.CodeRec fd.code fd.qualname)
  (Ce:fd.body= .stmts body) (Cd:mN s fd ⟨vals,[]⟩ binds) (TY:fd.closure=[])
  (yJ:∀x∈binds,fd.scope.names.lookup x.1=af .local\/(fd.scope.names.lookup x.1=af .cell/\((cellsFrom (s.heap.objs.size+1) fd.scope.names []).lookup x.1).isSome=true))
  (NE:fd.scope.isCoroutine=false) (Lc:fd.scope.isGenerator=false) (hk:fd.scope.kind= .function)
  (h:∀s₁,InCallC s (eB fd s.heap.objs.size a).locals (bindL (eB fd s.heap.objs.size a).kindOf binds λ aa=>none) (eB fd s.heap.objs.size a).cells
    (bindC (eB fd s.heap.objs.size a).kindOf binds λ aa=>none) s₁->
   cK J (aE prog w) (A.deeper (eB fd s.heap.objs.size a)) (execs body (eB fd s.heap.objs.size a)) (λ f s'=>R (.ok (.ret (match f with | .ret v=>v|_=> .none))) s') s₁):
  dO J (aE prog w) A (.call (.ref a) ⟨vals,[]⟩) R s:=by
 refine tree ?_
 show cK J _ A.in1 (DH (.ref a) ⟨vals,[]⟩) _ s
 unfold DH
 dsimp only
 refine cL (any (iQ ho ?_))
 obtain⟨c,oc,vs,tq,hc,Xt,hdc,hq⟩:=Xk
 rw[K9]
 dsimp only
 unfold callFunction
 dsimp only
 rw[NE,Lc,hc,TY,Ce]
 dsimp only
 refine cL (m:=field (.ref c) 1) (any (wpAny_field Xt hdc hq (cL (ret ?_))))
 refine cL (any (Cd _ _ _ _ (cL (any ?_))))
 refine DX hk yJ λ env he s' x=>?_
 have nl:s'.heap.NoLimit:=Lf.keeps x.toInCall.keep
 subst he
 refine cL (any (wpAny_enterFrame nl uj (ret ⟨rfl,rfl,func ?_⟩)))
 have hx:=h s' (by unfold eB; exact x)
 unfold eB at hx
 rw[hc] at hx
 exact hx
end
end X
set_option genCtorIdx true
inductive AV where
 |undef|none|bool (b:aC)|int (i:Int)|kq (bs:ae bX)|own (i:Nat)|val (v:am)|fn (a:au)
 |ly (xs:ae Int)|oH (A5:ae (ae Int))
 |tup (xs:ae AV)|lst (xs:ae AV)|row (ns:ae Int)|inst (C:au) (ks:ae Nat) (vs:ae AV)
 |any|j6 (a b c:Int)|iM (ks:ae Int) (vs:ae AV)|bG (ks:ae (ae Int)) (vs:ae AV)
set_option genCtorIdx false
theorem AV.lst.inj{x y:ae AV}(h:AV.lst x= .lst y):x=y:=by cases h; rfl
theorem AV.int.inj{x y:Int}(h:AV.int x= .int y):x=y:=by cases h; rfl
theorem AV.own.inj{x y:Nat}(h:AV.own x= .own y):x=y:=by cases h; rfl
inductive AO where
 |lst (xs:ae AV)|il (ns:ae Int)|inst (C:au) (j:Nat)|ns (ks:ae Nat) (vs:ae AV)
 |iM (ks:ae Int) (vs:ae AV)|bG (ks:ae (ae Int)) (vs:ae AV)|ba (bs:ae bX)|tab
structure St where
 loc:ae AV
 mem:ae AO
noncomputable abbrev BM:=au->aq Obj
def dC(G G':BM):Prop:=∀a o,G a=af o->G' a=af o
theorem dC.refl(G:BM):dC G G:=λ aa aa e=>e
theorem dC.trans{a b c:BM}(x:dC a b)(y:dC b c):dC a c:=λ p o e=>y p o (x p o e)
noncomputable def fieldNames:ae bM:=(["states","senses","slots","bounds","low","bins","contexts","ahead","splits","n","first","end","signs","size","code","left","found","parts","encoder",
 "ident","across","down","quant","kind","precision","height","width","components","many","planes","places","dc_slots","ac_slots","start","high",
 "put","widen","octet_out","clear_end","finish","step","get","is_alone","blocks","plane_size","most_across","most_down","mcus_across","mcus_down","padded"]:ae cR).map bR
def nm(i:Nat):bM:=fieldNames.getD i (bR "?")
noncomputable def NM:Nat:=50
def Ya:aC:=(eu NM).all λ i=>(eu NM).all λ j=>(nm i==nm j)==(i==j)
theorem Yb:Ya=true:=by decide+kernel
theorem E2{i j:Nat}(hi:i < NM)(hj:j < NM):(nm i==nm j)=(i==j):=by
 have h:=Yb
 unfold Ya at h
 rw[bj] at h
 have:=h i (qX.mpr hi)
 rw[bj] at this
 exact be.mp (this j (qX.mpr hj))
noncomputable def Wm{α β:Type}(f:α->β)(d:β)(l:ae α):Nat->β:=o8 (motive:=λ aa=>Nat->β) (λ aa=>d) (λ v aa k i=>DM (motive:=λ aa=>β) (f v) (λ j aa=>k j) i) l
noncomputable def MU{α:Type}(v:α)(l:ae α):Nat->ae α:=o8 (motive:=λ aa=>Nat->ae α) (λ aa=>[]) (λ u r k i=>DM (motive:=λ aa=>ae α) (v::r) (λ j aa=>u::k j) i) l
noncomputable def ES{κ α:Type}(e:κ->κ->aC):ae κ->ae α->κ->aq α
 |k::ks,v::vs,x=>aY (e k x) (af v) (ES e ks vs x)
 |_,_,_=> .none
noncomputable def jS{κ α:Type}(e:κ->κ->aC):ae κ->ae α->κ->α->ae α
 |k::ks,v::vs,x,u=>aY (e k x) (u::vs) (v::jS e ks vs x u)
 |_,_,_,u=>[u]
noncomputable def m8{κ:Type}(e:κ->κ->aC):ae κ->κ->ae κ
 |k::ks,x=>aY (e k x) (k::ks) (k::m8 e ks x)
 |[],x=>[x]
abbrev lk:ae Nat->ae AV->Nat->aq AV:=ES a_
abbrev IW:ae Nat->ae AV->Nat->AV->ae AV:=jS a_
abbrev putK:ae Nat->Nat->ae Nat:=m8 a_
section
variable{κ α:Type}{e:κ->κ->aC}{k x:κ}{ks:ae κ}{v u:α}{vs:ae α}
theorem qA(h:e k x=true):m8 e (k::ks) x=k::ks:=by show aY _ _ _=_; rw[h]; rfl
theorem mH(h:e k x=false):m8 e (k::ks) x=k::m8 e ks x:=by show aY _ _ _=_; rw[h]; rfl
theorem n_(h:e k x=true):jS e (k::ks) (v::vs) x u=u::vs:=by show aY _ _ _=_; rw[h]; rfl
theorem k_(h:e k x=false):jS e (k::ks) (v::vs) x u=v::jS e ks vs x u:=by show aY _ _ _=_; rw[h]; rfl
theorem u_(h:e k x=true):ES e (k::ks) (v::vs) x=af v:=by show aY _ _ _=_; rw[h]; rfl
theorem sH(h:e k x=false):ES e (k::ks) (v::vs) x=ES e ks vs x:=by show aY _ _ _=_; rw[h]; rfl
end
theorem condB{α:Type}{b:aC}{x y:aq α}{r:α}{Q:Prop}(h:aY b x y=af r)(k1:b=true->x=af r->Q)(k2:b=false->y=af r->Q):Q:=by
 rcases b
 ·exact k2 rfl h
 ·exact k1 rfl h
theorem y1{κ:Type}{e:κ->κ->aC}{x:κ}:∀ks:ae κ,(m8 e ks x).length<=ks.length+1
 |[]=>cE _
 |k::ks=>by
  show(aY (e k x) (k::ks) (k::m8 e ks x)).length<=_
  cases e k x
  ·exact eE (y1 ks)
  ·exact xm _
noncomputable def ww:ae Nat->Nat->aC
 |k::ks,x=>aY (a_ k x) true (ww ks x)
 |_,_=>false
noncomputable def px(o:Obj)(vs:bD am):Prop:=o.cls= .type "tuple"/\∃n,o.data= .seq vs n
noncomputable def iX(o:Obj)(vs:bD am):Prop:=∃n,o=(⟨.type "list", .none, .seq vs n,#[]⟩:Obj)
theorem iX.is{o:Obj}{vs:bD am}(h:iX o vs):o.cls= .type "list"/\∃n,o.data= .seq vs n:=let ⟨n,e⟩:=h; by subst e; exact⟨rfl,n,rfl⟩
theorem iX.plain{h:Heap}{l:au}{o:Obj}{vs:bD am}(ho:h.get? l=af o)(x:iX o vs):h.PlainList l vs:=let ⟨n,e⟩:=x; ⟨n,by rw[ho,e]⟩
theorem iX.of{h:Heap}{l:au}{vs:bD am}(x:h.PlainList l vs):∃o,h.get? l=af o/\iX o vs:=let ⟨n,e⟩:=x; ⟨_,e,n,rfl⟩
noncomputable def cw:ae Int->ae am->Prop
 |[],vs=>vs=[]
 |i::is,vs=>∃t r,vs= .int i t::r/\cw is r
noncomputable def t6:ae Nat->ae bi->ae am->Prop
 |[],es,us=>es=[]/\us=[]
 |k::ks,es,us=>∃h t u A0 rl,es=⟨h, .str (nm k) t,u⟩::A0/\us=u::rl/\k < NM/\t6 ks A0 rl
noncomputable def Fs(ks:ae Int):Int:=reduceHash (Builtin.Tuple.tupleHashOf (ks.map hashInt))
noncomputable def xH:ae Int->ae bi->ae am->Prop
 |[],es,us=>es=[]/\us=[]
 |k::ks,es,us=>∃t u A0 rl,es=⟨hashInt k, .int k t,u⟩::A0/\us=u::rl/\xH ks A0 rl
noncomputable def pw(G:BM):ae (ae Int)->ae bi->ae am->Prop
 |[],es,us=>es=[]/\us=[]
 |k::ks,es,us=>∃a o vs u A0 rl,es=⟨Fs k, .ref a,u⟩::A0/\us=u::rl/\(G a=af o/\px o vs)/\cw k vs.toList/\pw G ks A0 rl
mutual
noncomputable def VR(G:BM)(ρ:ae au):AV->am->Prop
 | .undef,_=>False
 | .none,v=>v= .none
 | .bool b,v=>v= .bool b
 | .int i,v=>∃t,v= .int i t
 | .kq bs,v=>∃t,v= .bytes bs.toArray t
 | .own i,v=>∃a,ρ[i]?=af a/\v= .ref a
 | .val u,v=>v=u/\xA u=true
 | .fn a,v=>v= .ref a/\∃o fd,G a=af o/\o.data= .func fd
 | .ly xs,v=>∃a o vs,v= .ref a/\G a=af o/\px o vs/\cw xs vs.toList
 | .oH A5,v=>∃a o vs,v= .ref a/\G a=af o/\px o vs/\vs.size=A5.length/\
   ∀(i:Nat) (xs:ae Int),A5[i]?=af xs->∃(b:au) (o:Obj) (us:bD am),vs[i]?=af (dp b)/\G b=af o/\px o us/\cw xs us.toList
 | .tup xs,v=>∃a o vs,v= .ref a/\G a=af o/\px o vs/\bI G ρ xs vs.toList
 | .lst xs,v=>∃a o vs,v= .ref a/\G a=af o/\iX o vs/\bI G ρ xs vs.toList
 | .row ns,v=>∃a o vs,v= .ref a/\G a=af o/\iX o vs/\cw ns vs.toList
 | .inst C ks us,v=>∃a d es n vs,v= .ref a/\G a=af (ge C d)/\G d=af (nh es n)/\t6 ks es vs/\bI G ρ us vs
 | .any,v=>xA v=true
 | .j6 x y z,v=>∃a t u w,v= .ref a/\G a=af (⟨.type "range", .none, .fields #[.int x t, .int y u, .int z w],#[]⟩:Obj)
 | .iM ks us,v=>∃a o es n vs,v= .ref a/\G a=af o/\o.ExactDict/\o.data= .dict es n/\xH ks es.toList vs/\bI G ρ us vs/\ks.Nodup/\a≠df
 | .bG ks us,v=>∃a o es n vs,v= .ref a/\G a=af o/\o.ExactDict/\o.data= .dict es n/\pw G ks es.toList vs/\bI G ρ us vs/\ks.Nodup/\a≠df
noncomputable def bI(G:BM)(ρ:ae au):ae AV->ae am->Prop
 |[],vs=>vs=[]
 |a::as,vs=>∃v r,vs=v::r/\VR G ρ a v/\bI G ρ as r
end
noncomputable def z5:c7:=⟨487,52,487,114⟩
noncomputable def m5:bM:=bR "scan_conditioning"++".<locals>."++"<lambda>"
def H4(G:BM)(o:Obj):Prop:=∃ps,o=td ps/\TriplesOk ps.toList/\(codeAmong z5 ps.toList=none\/∃c oc vs t,codeAmong z5 ps.toList=af (.ref c)/\G c=af oc/\oc.data= .fields vs/\vs[1]?=af (.str m5 t))
theorem H4.up{G G':BM}(g:dC G G'){o:Obj}:H4 G o->H4 G' o:=
 .imp λ aa=> .imp_right<| .imp_right<| .imp_right<| .imp λ aa=> .imp λ aa=> .imp λ aa=> .imp λ aa=> .imp_right<| .imp_left<|g _ _
def OR(G:BM)(ρ:ae au):AO->Obj->Prop
 | .lst xs,o=>∃vs,iX o vs/\bI G ρ xs vs.toList
 | .il ns,o=>∃vs,iX o vs/\cw ns vs.toList
 | .inst C j,o=>∃d,ρ[j]?=af d/\o=ge C d
 | .ns ks vs,o=>∃es n us,o=nh es n/\t6 ks es us/\bI G ρ vs us
 | .iM ks vs,o=>o.ExactDict/\∃es n us,o.data= .dict es n/\xH ks es.toList us/\bI G ρ vs us/\ks.Nodup
 | .bG ks vs,o=>o.ExactDict/\∃es n us,o.data= .dict es n/\pw G ks es.toList us/\bI G ρ vs us/\ks.Nodup
 | .ba bs,o=>o=(⟨.type "bytearray", .none, .bytearray bs.toArray 0,#[]⟩:Obj)
 | .tab,o=>H4 G o
noncomputable def Ext(ρ ρ':ae au):Prop:=∃τ,ρ'=ρ++τ
theorem Ext.refl(ρ:ae au):Ext ρ ρ:=⟨[],(bQ ρ).symm⟩
theorem Ext.trans{a b c:ae au}(x:Ext a b)(y:Ext b c):Ext a c:=by
 obtain⟨s,rfl⟩:=x; obtain⟨t,rfl⟩:=y; exact⟨s++t,gO ..⟩
theorem Ext.snoc(ρ:ae au)(a:au):Ext ρ (ρ++[a]):=⟨[a],rfl⟩
theorem Ext.get{ρ ρ':ae au}(x:Ext ρ ρ'){i:Nat}{a:au}(h:ρ[i]?=af a):ρ'[i]?=af a:=by
 obtain⟨τ,rfl⟩:=x
 rw[dA (jk.mp h).1]; exact h
theorem Ext.mem{ρ ρ':ae au}(x:Ext ρ ρ'){a:au}(h:a∈ρ):a∈ρ':=by
 obtain⟨τ,rfl⟩:=x; exact dx _ h
section
variable{G G':BM}{ρ ρ':ae au}
theorem pw.up(g:dC G G'):∀{ks:ae (ae Int)} {es:ae bi} {us:ae am},pw G ks es us->pw G' ks es us
 |[]=>id
 |_::_=> .imp λ aa=> .imp λ aa=> .imp λ aa=> .imp λ aa=> .imp λ aa=> .imp λ aa=> .imp_right<| .imp_right<| .imp (.imp_left (g _ _))<| .imp_right<|pw.up g
theorem Nl(g:dC G G'){v:am}{R R':Obj->bD am->Prop}(k:∀o vs,R o vs->R' o vs):(∃a o vs,v= .ref a/\G a=af o/\R o vs)->∃a o vs,v= .ref a/\G' a=af o/\R' o vs:=
 .imp λ aa=> .imp λ aa=> .imp λ aa=> .imp_right<| .imp (g _ _) (k _ _)
theorem Sw(g:dC G G'){v:am}{R R':au->Obj->bD bi->Nat->ae am->Prop}(k:∀a o es n vs,R a o es n vs->R' a o es n vs):(∃a o es n vs,v= .ref a/\G a=af o/\R a o es n vs)->∃a o es n vs,v= .ref a/\G' a=af o/\R' a o es n vs:=
 .imp λ aa=> .imp λ aa=> .imp λ aa=> .imp λ aa=> .imp λ aa=> .imp_right<| .imp (g _ _) (k _ _ _ _ _)
theorem Zl(x:Ext ρ ρ'){i:Nat}{v:am}:(∃a,ρ[i]?=af a/\v= .ref a)->∃a,ρ'[i]?=af a/\v= .ref a:= .imp λ aa=> .imp_left x.get
theorem Zk(g:dC G G'){a:au}{p:Prop}:(p/\∃o fd,G a=af o/\o.data= .func fd)->p/\∃o fd,G' a=af o/\o.data= .func fd:= .imp_right<| .imp λ aa=> .imp λ aa=> .imp_left<|g _ _
theorem acK(g:dC G G'){A5:ae (ae Int)}{vs:bD am}{p:Prop}:(p/\∀(i:Nat) (xs:ae Int),A5[i]?=af xs->∃(b:au) (o:Obj) (us:bD am),vs[i]?=af (dp b)/\G b=af o/\px o us/\cw xs us.toList)->
 p/\∀(i:Nat) (xs:ae Int),A5[i]?=af xs->∃(b:au) (o:Obj) (us:bD am),vs[i]?=af (dp b)/\G' b=af o/\px o us/\cw xs us.toList:=
 .imp_right λ h i xs e=>(h i xs e).imp λ aa=> .imp λ aa=> .imp λ aa=> .imp_right<| .imp_left<|g _ _
theorem AE(g:dC G G'){C:au}{ks:ae Nat}{v:am}{R R':ae am->Prop}(k:∀vs,R vs->R' vs):(∃a d es n vs,v= .ref a/\G a=af (ge C d)/\G d=af (nh es n)/\t6 ks es vs/\R vs)->∃a d es n vs,v= .ref a/\G' a=af (ge C d)/\G' d=af (nh es n)/\t6 ks es vs/\R' vs:=
 .imp λ aa=> .imp λ aa=> .imp λ aa=> .imp λ aa=> .imp λ aa=> .imp_right<| .imp (g _ _)<| .imp (g _ _)<| .imp_right (k _)
theorem Sx(g:dC G G'){x y z:Int}{v:am}:(∃a t u w,v= .ref a/\G a=af (⟨.type "range", .none, .fields #[.int x t, .int y u, .int z w],#[]⟩:Obj))->∃a t u w,v= .ref a/\G' a=af (⟨.type "range", .none, .fields #[.int x t, .int y u, .int z w],#[]⟩:Obj):=
 .imp λ aa=> .imp λ aa=> .imp λ aa=> .imp λ aa=> .imp_right (g _ _)
mutual
theorem VR.up(g:dC G G')(x:Ext ρ ρ'):∀(a:AV) {v:am},VR G ρ a v->VR G' ρ' a v
 | .undef=>λ h=>h
 | .none=>λ h=>h
 | .bool _=>λ h=>h
 | .int _=>λ h=>h
 | .kq _=>λ h=>h
 | .own _=>λ h=>Zl x h
 | .val _=>λ h=>h
 | .fn _=>λ h=>Zk g h
 | .ly _=>λ h=>Nl g (λ aa aa r=>r) h
 | .oH _=>λ h=>Nl g (λ aa aa=> .imp_right (acK g)) h
 | .tup xs=>λ h=>Nl g (λ aa aa=> .imp_right (bI.up g x xs)) h
 | .lst xs=>λ h=>Nl g (λ aa aa=> .imp_right (bI.up g x xs)) h
 | .row _=>λ h=>Nl g (λ aa aa r=>r) h
 | .inst _ _ us=>λ h=>AE g (λ aa=>bI.up g x us) h
 | .any=>λ h=>h
 | .j6 _ _ _=>λ h=>Sx g h
 | .iM _ us=>λ h=>Sw g (λ aa aa aa aa aa=> .imp_right<| .imp_right<| .imp_right<| .imp_left (bI.up g x us)) h
 | .bG _ us=>λ h=>Sw g (λ aa aa aa aa aa=> .imp_right<| .imp_right<| .imp (pw.up g)<| .imp_left (bI.up g x us)) h
theorem bI.up(g:dC G G')(x:Ext ρ ρ'):∀(as:ae AV) {vs:ae am},bI G ρ as vs->bI G' ρ' as vs
 |[]=>λ h=>h
 |a::as=>λ h=>h.imp λ aa=> .imp λ aa=> .imp_right<| .imp (VR.up g x a) (bI.up g x as)
end
theorem OR.up(g:dC G G')(x:Ext ρ ρ'){a:AO}{o:Obj}(h:OR G ρ a o):OR G' ρ' a o:=by
 rcases a with xs|_|_|_|_|_|_|_
 ·exact cP (λ aa=> .imp_right (bI.up g x _)) h
 ·exact h
 ·exact cP (λ aa=> .imp_left x.get) h
 ·exact cP (λ aa=> .imp λ aa=> .imp λ aa=> .imp_right<| .imp_right<|bI.up g x _) h
 ·exact iN (.imp λ aa=> .imp λ aa=> .imp λ aa=> .imp_right<| .imp_right<| .imp_left<|bI.up g x _) h
 ·exact iN (.imp λ aa=> .imp λ aa=> .imp λ aa=> .imp_right<| .imp (pw.up g)<| .imp_left<|bI.up g x _) h
 ·exact h
 ·exact H4.up g h
theorem bI.u0{vs:ae am}{Q:ae am->Prop}(h:bI G ρ [] vs)(k:Q []):Q vs:=(show vs=[] from h)▸k
theorem bI.uc{a:AV}{as:ae AV}{vs:ae am}{Q:ae am->Prop}(h:bI G ρ (a::as) vs)(k:∀v r,VR G ρ a v->bI G ρ as r->Q (v::r)):Q vs:=
 aD h λ v h=>h.elim λ r h=>h.1▸k v r h.2.1 h.2.2
theorem bI.nil:bI G ρ [] []:=rfl
theorem bI.cons{a:AV}{v:am}{as:ae AV}{vs:ae am}(h:VR G ρ a v)(k:bI G ρ as vs):bI G ρ (a::as) (v::vs):=⟨v,vs,rfl,h,k⟩
theorem bI.length:∀{as:ae AV} {vs:ae am},bI G ρ as vs->vs.length=as.length
 |[]=>λ h=>h.u0 (Q:=λ vs=>vs.length=0) rfl
 |_::as=>λ h=>h.uc (Q:=λ vs=>vs.length=as.length+1) λ aa aa aa h=>ah (·+1) (bI.length h)
theorem cu{α:Type}{y:α}{Q:Prop}(h:(none:aq α)=af y):Q:=by cases h
theorem bI.K1{a:AV}:∀{as:ae AV} {i:Nat} {vs:ae am},bI G ρ as vs->as[i]?=af a->∃v,vs[i]?=af v/\VR G ρ a v
 |[],_=>λ aa e=>cu e
 |_::_,0=>λ h e=>h.uc (Q:=λ vs=>∃v,vs[0]?=af v/\VR G ρ a v) λ v aa h1 aa=>⟨v,rfl,ak e▸h1⟩
 |_::_,i+1=>λ h e=>h.uc (Q:=λ vs=>∃v,vs[i+1]?=af v/\VR G ρ a v) λ aa aa aa h2=>bI.K1 (i:=i) h2 e
theorem bI.get{as:ae AV}{vs:ae am}(h:bI G ρ as vs){i:Nat}{a:AV}(e:as[i]?=af a):∃v,vs[i]?=af v/\VR G ρ a v:=h.K1 e
theorem bI.Ap{a:AV}{v:am}(e:VR G ρ a v):∀{as:ae AV} {i:Nat} {vs:ae am},bI G ρ as vs->bI G ρ (as.set i a) (vs.set i v)
 |[],_=>λ h=>h.u0 (Q:=λ vs=>bI G ρ [] (vs.set _ v)) rfl
 |_::as,0=>λ h=>h.uc (Q:=λ vs=>bI G ρ (a::as) (vs.set 0 v)) λ aa aa aa h2=>bI.cons e h2
 |b::as,i+1=>λ h=>h.uc (Q:=λ vs=>bI G ρ (b::as.set i a) (vs.set (i+1) v)) λ aa aa h1 h2=>bI.cons h1 (bI.Ap e h2)
theorem bI.set{as:ae AV}{vs:ae am}(h:bI G ρ as vs){i:Nat}{a:AV}{v:am}(e:VR G ρ a v):bI G ρ (as.set i a) (vs.set i v):=h.Ap e
theorem bI.append{bs:ae AV}{us:ae am}:∀{as:ae AV} {vs:ae am},bI G ρ as vs->bI G ρ bs us->bI G ρ (as++bs) (vs++us)
 |[]=>λ h k=>h.u0 (Q:=λ vs=>bI G ρ bs (vs++us)) k
 |b::as=>λ h k=>h.uc (Q:=λ vs=>bI G ρ (b::(as++bs)) (vs++us)) λ aa aa h1 h2=>bI.cons h1 (bI.append h2 k)
end
theorem cw.u0{vs:ae am}{Q:ae am->Prop}(h:cw [] vs)(k:Q []):Q vs:=(show vs=[] from h)▸k
theorem cw.uc{a:Int}{as:ae Int}{vs:ae am}{Q:ae am->Prop}(h:cw (a::as) vs)(k:∀t r,cw as r->Q (.int a t::r)):Q vs:=
 aD h λ t h=>h.elim λ r h=>h.1▸k t r h.2
theorem cw.cons{a:Int}{t:j_}{as:ae Int}{vs:ae am}(k:cw as vs):cw (a::as) (.int a t::vs):=⟨t,vs,rfl,k⟩
theorem cw.length:∀{as:ae Int} {vs:ae am},cw as vs->vs.length=as.length
 |[]=>λ h=>h.u0 (Q:=λ vs=>vs.length=0) rfl
 |_::as=>λ h=>h.uc (Q:=λ vs=>vs.length=as.length+1) λ aa aa h=>ah (·+1) h.length
theorem cw.K1{a:Int}:∀{as:ae Int} {i:Nat} {vs:ae am},cw as vs->as[i]?=af a->∃t,vs[i]?=af (.int a t)
 |[],_=>λ aa e=>cu e
 |_::_,0=>λ h e=>h.uc (Q:=λ vs=>∃t,vs[0]?=af (.int a t)) λ t aa aa=>⟨t,ak e▸rfl⟩
 |_::_,i+1=>λ h e=>h.uc (Q:=λ vs=>∃t,vs[i+1]?=af (.int a t)) λ aa aa h2=>h2.K1 (i:=i) e
theorem cw.get{as:ae Int}{vs:ae am}(h:cw as vs){i:Nat}{a:Int}(e:as[i]?=af a):∃t,vs[i]?=af (.int a t):=h.K1 e
theorem cw.Ap{a:Int}{t:j_}:∀{as:ae Int} {i:Nat} {vs:ae am},cw as vs->cw (as.set i a) (vs.set i (.int a t))
 |[],_=>λ h=>h.u0 (Q:=λ vs=>cw [] (vs.set _ (.int a t))) rfl
 |_::as,0=>λ h=>h.uc (Q:=λ vs=>cw (a::as) (vs.set 0 (.int a t))) λ aa aa h2=>h2.cons
 |b::as,i+1=>λ h=>h.uc (Q:=λ vs=>cw (b::as.set i a) (vs.set (i+1) (.int a t))) λ aa aa h2=>h2.Ap.cons
theorem cw.set{as:ae Int}{vs:ae am}(h:cw as vs){i:Nat}{a:Int}{t:j_}:cw (as.set i a) (vs.set i (.int a t)):=h.Ap
section
variable{G:BM}{ρ:ae au}{v:am}{Q:am->Prop}
theorem VR.Mh{i:Int}(h:VR G ρ (.int i) v):∃t,v= .int i t:=h
theorem VR.of_none(h:VR G ρ .none v):v= .none:=h
theorem VR.Mi{i:Nat}(h:VR G ρ (.own i) v):∃a,ρ[i]?=af a/\v= .ref a:=h
theorem VR.mA{i:Int}{t:j_}:VR G ρ (.int i) (.int i t):=i4 t rfl
theorem VR.Ki{b:aC}:VR G ρ (.bool b) (.bool b):=Eq.refl _
theorem VR.none_:VR G ρ .none .none:=Eq.refl _
theorem VR.Rz{bs:ae bX}{t:j_}:VR G ρ (.kq bs) (.bytes bs.toArray t):=i4 t rfl
theorem VR.IP{i:Nat}{a:au}(h:ρ[i]?=af a):VR G ρ (.own i) (.ref a):=i4 a ⟨h,rfl⟩
theorem VR.Zg{xs:ae AV}{a:au}{o:Obj}{vs:bD am}(h:G a=af o)(k:px o vs)(r:bI G ρ xs vs.toList):VR G ρ (.tup xs) (.ref a):=i4 a ⟨o,vs,rfl,h,k,r⟩
theorem VR.XY{xs:ae AV}{a:au}{o:Obj}{vs:bD am}(h:G a=af o)(k:iX o vs)(r:bI G ρ xs vs.toList):VR G ρ (.lst xs) (.ref a):=i4 a ⟨o,vs,rfl,h,k,r⟩
theorem VR.Qp{xs:ae Int}{a:au}{o:Obj}{vs:bD am}(h:G a=af o)(k:iX o vs)(r:cw xs vs.toList):VR G ρ (.row xs) (.ref a):=i4 a ⟨o,vs,rfl,h,k,r⟩
theorem VR.Ry{b:aC}(h:VR G ρ (.bool b) v)(k:Q (.bool b)):Q v:=(show v=_ from h)▸k
theorem VR.iu{i:Int}(h:VR G ρ (.int i) v)(k:∀t,Q (.int i t)):Q v:=aD h λ t e=>(show v=_ from e)▸k t
theorem VR.P8{i:Nat}(h:VR G ρ (.own i) v)(k:∀a,ρ[i]?=af a->Q (.ref a)):Q v:=aD h λ a e=>e.2▸k a e.1
theorem Mx{R:au->Obj->bD am->Prop}(h:∃a o vs,v= .ref a/\R a o vs)(k:∀a o vs,R a o vs->Q (.ref a)):Q v:=h.elim λ a h=>h.elim λ o h=>h.elim λ vs h=>h.1▸k a o vs h.2
theorem VR.C8{ns:ae Int}(h:VR G ρ (.row ns) v)(k:∀l o vs,G l=af o->iX o vs->cw ns vs.toList->Q (.ref l)):Q v:=Mx h λ a o vs h=>k a o vs h.1 h.2.1 h.2.2
theorem VR.lstU{ns:ae AV}(h:VR G ρ (.lst ns) v)(k:∀l o vs,G l=af o->iX o vs->bI G ρ ns vs.toList->Q (.ref l)):Q v:=Mx h λ a o vs h=>k a o vs h.1 h.2.1 h.2.2
theorem VR.I8{ns:ae AV}(h:VR G ρ (.tup ns) v)(k:∀l o vs,G l=af o->px o vs->bI G ρ ns vs.toList->Q (.ref l)):Q v:=Mx h λ a o vs h=>k a o vs h.1 h.2.1 h.2.2
end
noncomputable def ace(a:AV):aC:=match a with
 | .own _=>true
 | .fn _=>true
 | .ly _=>true
 | .oH _=>true
 | .tup _=>true
 | .lst _=>true
 | .row _=>true
 | .inst _ _ _=>true
 | .j6 _ _ _=>true
 | .iM _ _=>true
 | .bG _ _=>true
 |_=>false
theorem VR.isRef{G:BM}{ρ:ae au}{a:AV}{v:am}(h:VR G ρ a v)(r:ace a=true):∃x,v= .ref x:=by
 rcases a with _|_|_|_|_|_|_|_|_|_|_|_|_|_|_|_|_|_
 case own=>exact cP (λ aa h=>h.2) h
 case fn=>exact⟨_,eD h⟩
 case inst=>exact cP (λ aa h=>h.elim λ aa h=>h.elim λ aa h=>h.elim λ aa h=>h.elim λ aa h=>h.1) h
 case j6=>exact cP (λ aa h=>h.elim λ aa h=>h.elim λ aa h=>h.elim λ aa h=>h.1) h
 case iM=>exact cP (λ aa h=>h.elim λ aa h=>h.elim λ aa h=>h.elim λ aa h=>h.elim λ aa h=>h.1) h
 case bG=>exact cP (λ aa h=>h.elim λ aa h=>h.elim λ aa h=>h.elim λ aa h=>h.elim λ aa h=>h.1) h
 all_goals first|exact ay r|exact cP (λ aa h=>h.elim λ aa h=>h.elim λ aa h=>h.1) h
theorem bI.cc{G:BM}{ρ:ae au}{a:AV}{as:ae AV}{v:am}{vs:ae am}(h:bI G ρ (a::as) (v::vs)):VR G ρ a v/\bI G ρ as vs:=
 aD h λ aa h=>h.elim λ aa h=>have e:=ql h.1; ⟨e.1▸h.2.1,e.2▸h.2.2⟩
section
variable{G:BM}{ρ:ae au}{vs:ae am}{Q:ae am->Prop}{a b c:AV}
theorem bI.u1(h:bI G ρ [a] vs)(k:∀v,VR G ρ a v->Q [v]):Q vs:=h.uc (Q:=Q) λ v aa h1 h2=>h2.u0 (Q:=λ r=>Q (v::r)) (k v h1)
theorem bI.u2(h:bI G ρ [a,b] vs)(k:∀v w,VR G ρ a v->VR G ρ b w->Q [v,w]):Q vs:=h.uc (Q:=Q) λ v aa h1 h2=>h2.u1 (Q:=λ r=>Q (v::r)) λ w=>k v w h1
theorem bI.u3(h:bI G ρ [a,b,c] vs)(k:∀v w x,VR G ρ a v->VR G ρ b w->VR G ρ c x->Q [v,w,x]):Q vs:=h.uc (Q:=Q) λ v aa h1 h2=>h2.u2 (Q:=λ r=>Q (v::r)) λ w x=>k v w x h1
end
structure RM(G:BM)(ρ:ae au)(mem:ae AO)(h:Heap):Prop where
 kg:∀a o,G a=af o->h.get? a=af o
 len:ρ.length=mem.length
 obj:∀(i:Nat) (a:au) (ao:AO),ρ[i]?=af a->mem[i]?=af ao->∃o,h.get? a=af o/\OR G ρ ao o
 nd:ρ.Nodup
 fr:∀a∈ρ,G a= .none
section
theorem jp{α:Type}{l:ae α}{i:Nat}{a:α}(h:l[i]?=af a):i < l.length:=(jk.mp h).1
theorem oK{α:Type}{l:ae α}{i:Nat}(h:i < l.length):∃a,l[i]?=af a:=⟨_,d8 h⟩
theorem vn{α:Type}{x y:α}{Q:Prop}:∀{l:ae α} {i:Nat},(l++[x])[i]?=af y->(l[i]?=af y->Q)->(i=l.length->y=x->Q)->Q
 |[],0=>λ h aa k=>k rfl (ak h).symm
 |[],_+1=>λ h aa aa=>cu h
 |_::_,0=>λ h k aa=>k h
 |_::l,i+1=>λ h k k'=>vn (l:=l) (i:=i) h k λ e=>k' (ah (·+1) e)
theorem MV{α:Type}{x y:α}{Q:Prop}:∀{l:ae α} {i j:Nat},(l.set i x)[j]?=af y->(i=j->y=x->Q)->(i≠j->l[j]?=af y->Q)->Q
 |[],_,_=>λ h aa aa=>cu h
 |_::_,0,0=>λ h k aa=>k rfl (ak h).symm
 |_::_,0,_+1=>λ h aa k=>k (λ e=>nomatch e) h
 |_::_,_+1,0=>λ h aa k=>k (λ e=>nomatch e) h
 |_::l,i+1,j+1=>λ h k k'=>MV (l:=l) (i:=i) (j:=j) h (λ e=>k (ah (·+1) e)) λ n=>k' λ e=>n (eG e)
theorem de{α:Type}{x:aq α}{a:α}{Q:Prop}(h:x=none)(k:x=af a):Q:=cu (h.symm.trans k)
theorem none_of{α:Type}{x:aq α}(h:∀a,x=af a->False):x=none:=Option.eq_none_iff_forall_ne_some.mpr h
variable{G G':BM}{h h':Heap}{ρ:ae au}{mem:ae AO}
theorem RM.at(R:RM G ρ mem h){i:Nat}{ao:AO}(e:mem[i]?=af ao):∃a o,ρ[i]?=af a/\h.get? a=af o/\OR G ρ ao o:=
 (oK (R.len▸jp e)).imp λ a hi=>(R.obj i a ao hi e).imp λ aa=> .intro hi
theorem im{l:ae au}{i:Nat}{a:au}(e:l[i]?=af a):a∈l:=dy e
theorem RM.some_of(R:RM G ρ mem h){a:au}(ha:a∈ρ):∃o,h.get? a=af o:=
 (lS ha).elim λ i hi=>(oK (R.len▸jp hi)).elim λ ao e=>(R.obj i a ao hi e).imp λ aa=>eD
theorem RM.yd(R:RM G ρ mem h){a:au}(ha:h.get? a=none):G a=none:=none_of λ o e=>de ha (R.kg a o e)
theorem RM.Md(R:RM G ρ mem h){a:au}(ha:h.get? a=none):a∉ρ:=λ hm=>(R.some_of hm).elim λ aa=>de ha
theorem RM.Ht(R:RM G ρ mem h)(k:∀a o,(a∈ρ\/G a=af o)->h.get? a=af o->h'.get? a=af o):RM G ρ mem h':=
 ⟨λ a o e=>k a o (.inr e) (R.kg a o e),R.len,λ i a ao hi e=>(R.obj i a ao hi e).imp λ o=> .imp_left (k a o (.inl (im hi))),R.nd,R.fr⟩
theorem RM.keeps(R:RM G ρ mem h)(k:∀a o,h.get? a=af o->h'.get? a=af o):RM G ρ mem h':=R.Ht λ a o aa e=>k a o e
theorem RM.wide(R:RM G ρ mem h)(g:dC G G')(k:∀a o,G' a=af o->h.get? a=af o)(d:∀a∈ρ,G' a= .none):RM G' ρ mem h:=
 ⟨k,R.len,λ i a ao hi e=>(R.obj i a ao hi e).imp λ aa=> .imp_right (OR.up g (Ext.refl _)),R.nd,d⟩
theorem RM.turn(R:RM G ρ mem h){i:Nat}{a:au}{vR:AO}{o':Obj}(hi:ρ[i]?=af a)(he:h'.get? a=af o')(q:OR G ρ vR o')
  (k:∀b o,b≠a->h.get? b=af o->h'.get? b=af o):RM G ρ (mem.set i vR) h':=
 ⟨λ b o e=>k b o (λ z=>de (R.fr a (im hi)) (z▸e)) (R.kg b o e),R.len.trans iI.symm,
  λ j b ao hj e=>MV e (λ ij z=>have ab:a=b:=ak (hi.symm.trans ((ah (ρ[·]?) ij).trans hj)); ⟨o',ab▸he,z▸q⟩)
   λ n e=>(R.obj j b ao hj e).imp λ o=> .imp_left (k b o λ z=>n ((nQ (jp hi) R.nd).mp (hi.trans ((ah af z.symm).trans hj.symm)))),R.nd,R.fr⟩
theorem RM.new(R:RM G ρ mem h){a:au}{ao:AO}{o:Obj}(ha:h.get? a= .none)(he:h'.get? a=af o)(q:OR G (ρ++[a]) ao o)
  (k:∀b o,h.get? b=af o->h'.get? b=af o):RM G (ρ++[a]) (mem++[ao]) h':=
 ⟨λ b o e=>k b o (R.kg b o e),by rw[bh,bh,R.len]; rfl,
  λ i b bo hi e=>vn hi (λ hi=>vn e (λ e=>(R.obj i b bo hi e).imp λ o=> .imp (k b o) (OR.up (dC.refl _) (Ext.snoc ρ a))) λ z aa=>bt (jp hi) (R.len▸z▸fj _))
   λ z y=>vn e (λ e=>bt (jp e) (R.len▸z▸fj _)) λ aa x=>⟨o,y▸he,x▸q⟩,
  gP.mpr ⟨R.nd,o4 _ _,λ x hx y hy z=>R.Md ha ((z.trans (aZ.mp hy))▸hx)⟩,
  λ b hb=>(fJ.mp hb).elim (R.fr b) λ hb=>aZ.mp hb▸R.yd ha⟩
noncomputable def BM.with(G:BM)(a:au)(o:Obj):BM:=λ b=>if b=a then af o else G b
theorem BM.zf(G:BM)(a:au)(o:Obj):G.with a o a=af o:=dj rfl
theorem BM.AH{a b:au}{o:Obj}(n:b≠a):G.with a o b=G b:=bC n
theorem BM.Q5{a:au}{o:Obj}(e:G a= .none):dC G (G.with a o):=λ b o' q=>(BM.AH λ z=>de e (z▸q)).trans q
theorem BM.G6{a b:au}{o o':Obj}{Q:Prop}(h:G.with a o b=af o')(k:b=a->o=o'->Q)(k':G b=af o'->Q):Q:=
 (d0 (b=a)).elim (λ z=>k z (ak ((dj z).symm.trans h))) λ n=>k' ((BM.AH n).symm.trans h)
theorem RM.freeze(R:RM G ρ mem h){a:au}{o:Obj}(ha:h.get? a= .none)(he:h'.get? a=af o)
  (k:∀b o,h.get? b=af o->h'.get? b=af o):RM (G.with a o) ρ mem h'/\dC G (G.with a o):=
 have g:=BM.Q5 (o:=o) (R.yd ha)
 ⟨(R.keeps k).wide g (λ b o' e=>BM.G6 e (λ z y=>z▸y▸he) λ e=>k _ _ (R.kg b o' e)) λ b hb=>(BM.AH λ(z:b=a)=>R.Md ha (z▸hb)).trans (R.fr b hb),g⟩
end
def bK(l:ae AO):Nat->aq AO:=Wm af none l
def bz(l:ae AO)(i:Nat)(v:AO):ae AO:=MU v l i
theorem eI:∀(l:ae AO) (i:Nat),bK l i=l[i]?
 |[],_=>rfl
 |_::_,0=>rfl
 |_::r,i+1=>by rw[List.getElem?_cons_succ]; exact eI r i
theorem n7:∀(l:ae AO) (i:Nat) (v:AO),bz l i v=l.set i v
 |[],_,_=>rfl
 |_::_,0,_=>rfl
 |u::r,i+1,v=>ah (u::·) (n7 r i v)
structure mU(lo size code left:Int)(L:Nat):Prop where
 s0:lo<=size
 s1:size<=65536
 c0:0<=code
 l0:0<=left
 l1:left<=11
 ZL:(code+size) * 2 ^ left.toNat<=150994944
 S8:L=0->(code+size) * 2 ^ left.toNat<=134217728
structure o_(size code left:Int)(bs:ae bX):Prop where
 b:mU 32768 size code left bs.length
 l:1<=left
inductive TV where
 |ex (v:AV)|rg (l u:Int)|ai|tb|Ju (n:Nat)|tp (a b:TV)|rw(q:ae (Int×Int))|ln|lc (h t:TV)|nr (v l u:Int)|gr (R:ae (ae (ae (ae Int))))
inductive TO where
 |ns (ks:ae Nat) (vs:ae TV)|inst (C:au) (j:Nat)|lst (vs:ae TV)|il (q:ae (Int×Int))|zX (n:Nat) (l u:Int)
 |iM (ks:ae Int) (vs:ae TV)|bG (ks:ae (ae Int)) (vs:ae TV)|enc (q L:Nat)|ba|ix (r:ae Int)
structure AS where
 loc:ae TV
 mem:ae TO
noncomputable def qZ:ae (Int×Int)->ae Int->Prop
 |[],r=>r=[]
 |q::qs,r=>∃x xs,r=x::xs/\q.1<=x/\x<=q.2/\qZ qs xs
noncomputable def FO(r:ae Int)(c:AV):Prop:=c= .row r\/(c= .none/\r=[0,0,0,0])
noncomputable def ti{α:Type}(P:α->AV->Prop):ae α->ae AV->Prop
 |[],cs=>cs=[]
 |r::rs,cs=>∃c t,cs=c::t/\P r c/\ti P rs t
noncomputable def HY{α:Type}(P:ae α->ae AV->Prop)(r:ae α)(v:AV):Prop:=∃c,v= .lst c/\P r c
abbrev zl:=ti FO
abbrev SK:=ti (HY zl)
abbrev uZ:=ti (HY SK)
def mY(R:ae (ae (ae (ae Int))))(x:AV):Prop:=∃ps,x= .inst 812 [28,29] [.int 4, .lst ps]/\uZ R ps
noncomputable def GV:TV->AV->Prop
 | .ex v,x=>x=v
 | .rg l u,x=>∃i,x= .int i/\l<=i/\i<=u
 | .ai,x=>∃i,x= .int i
 | .tb,x=>∃b,x= .bool b
 | .Ju n,x=>∃bs,x= .kq bs/\bs.length<=n
 | .tp a b,x=>∃y z,x= .tup [y,z]/\GV a y/\GV b z
 | .rw q,x=>∃r,x= .row r/\qZ q r
 | .ln,x=>x= .lst []
 | .lc h t,x=>∃y ys,x= .lst (y::ys)/\GV h y/\GV t (.lst ys)
 | .nr v l u,x=>x= .int v/\l<=v/\v<=u
 | .gr R,x=>mY R x
noncomputable def dD:ae TV->ae AV->Prop
 |[],us=>us=[]
 |t::ts,us=>∃u r,us=u::r/\GV t u/\dD ts r
def GO(m:ae AO):TO->AO->Prop
 | .ns ks vs,o=>∃us,o= .ns ks us/\dD vs us
 | .inst C j,o=>o= .inst C j
 | .lst vs,o=>∃us,o= .lst us/\dD vs us
 | .il q,o=>∃r,o= .il r/\qZ q r
 | .zX n l u,o=>∃r,o= .il r/\r.length=n/\∀x∈r,l<=x/\x<=u
 | .iM ks vs,o=>∃us,o= .iM ks us/\dD vs us
 | .bG ks vs,o=>∃us,o= .bG ks us/\dD vs us
 | .enc q L,o=>∃size code left bs,o= .ns [13,14,15,16] [.int size, .int code, .int left, .own q]/\bK m q=af (.ba bs)/\o_ size code left bs/\bs.length<=L
 | .ba,o=>∃bs,o= .ba bs
 | .ix r,o=>o= .il r
def gR(l:ae TO):Nat->aq TO:=Wm af none l
def qV(l:ae TO)(i:Nat)(v:TO):ae TO:=MU v l i
noncomputable def wy:TO->aC
 | .ba=>true
 |_=>false
noncomputable def l9:TO->aq Nat
 | .enc q _=>af q
 |_=>none
structure GM(t:ae TO)(m:ae AO):Prop where
 len:t.length=m.length
 get:∀i o,gR t i=af o->∃o',bK m i=af o'/\GO m o o'
 enc:∀i o q,gR t i=af o->l9 o=af q->gR t q=af .ba
structure GS(s:AS)(σ:St):Prop where
 loc:dD s.loc σ.loc
 mem:GM s.mem σ.mem
theorem qf:∀{t:ae TO} {i:Nat} {o:TO},gR t i=af o->i < t.length
 |[],_,_=>cu
 |_::_,0,_=>λ aa=>pt _
 |_::r,_+1,_=>λ h=>f5 (qf (t:=r) h)
theorem o0{o y:TO}{Q:Prop}:∀{t:ae TO} {i j:Nat},gR (qV t i o) j=af y->(j=i->y=o->Q)->(j≠i->gR t j=af y->Q)->Q
 |[],_,_=>λ h aa aa=>cu h
 |_::_,0,0=>λ h k aa=>k rfl (ak h).symm
 |_::_,0,_+1=>λ h aa k=>k (cx _) h
 |_::_,_+1,0=>λ h aa k=>k (cx _).symm h
 |_::l,i+1,j+1=>λ h k k'=>o0 (t:=l) (i:=i) (j:=j) h (λ e=>k (ah (·+1) e)) λ n=>k' λ e=>n (eG e)
theorem lq{o:TO}:∀{t:ae TO} {i j:Nat},j≠i->gR (qV t i o) j=gR t j
 |[],_,_=>λ aa=>rfl
 |_::_,0,0=>λ n=>bt rfl n
 |_::_,0,_+1=>λ aa=>rfl
 |_::_,_+1,0=>λ aa=>rfl
 |_::l,_+1,_+1=>λ n=>lq (t:=l) λ e=>n (ah (·+1) e)
theorem fF(l:ae AO)(i:Nat)(v:AO):(bz l i v).length=l.length:=n7 l i v▸iI
theorem iU:∀{l:ae AO} {i:Nat} {v:AO},i < l.length->bK (bz l i v) i=af v
 |[],_,_=>λ h=>bt h (ml _)
 |_::_,0,_=>λ aa=>rfl
 |_::r,_+1,_=>λ h=>iU (l:=r) (iq h)
theorem dT:∀{l:ae AO} {i j:Nat} {v:AO},j≠i->bK (bz l i v) j=bK l j
 |[],_,_,_=>λ aa=>rfl
 |_::_,0,0,_=>λ n=>bt rfl n
 |_::_,0,_+1,_=>λ aa=>rfl
 |_::_,_+1,0,_=>λ aa=>rfl
 |_::l,_+1,_+1,_=>λ n=>dT (l:=l) λ e=>n (ah (·+1) e)
theorem w9{o y:TO}{Q:Prop}:∀{t:ae TO} {j:Nat},gR (t++[o]) j=af y->(j=t.length->y=o->Q)->(gR t j=af y->Q)->Q
 |[],0=>λ h k aa=>k rfl (ak h).symm
 |[],_+1=>λ h aa aa=>cu h
 |_::_,0=>λ h aa k=>k h
 |_::l,j+1=>λ h k k'=>w9 (t:=l) (j:=j) h (λ e=>k (ah (·+1) e)) k'
theorem w_{o y:TO}:∀{t:ae TO} {j:Nat},gR t j=af y->gR (t++[o]) j=af y
 |[],_=>cu
 |_::_,0=>id
 |_::l,j+1=>λ h=>w_ (t:=l) (j:=j) h
theorem p8{o:AO}:∀{t:ae AO},bK (t++[o]) t.length=af o
 |[]=>rfl
 |_::l=>p8 (t:=l)
theorem r4{o:AO}:∀{t:ae AO} {j:Nat},j≠t.length->bK (t++[o]) j=bK t j
 |[],0=>λ n=>bt rfl n
 |[],_+1=>λ aa=>rfl
 |_::_,0=>λ aa=>rfl
 |_::l,_+1=>λ n=>r4 (t:=l) λ e=>n (ah (·+1) e)
theorem sZ:∀(t:ae TO) (i:Nat) (o:TO),(qV t i o).length=t.length
 |[],_,_=>rfl
 |_::_,0,_=>rfl
 |v::r,i+1,o=>ah (·+1) (sZ r i o)
theorem GO.frame{m m':ae AO}{o:TO}{o':AO}(h:GO m o o')(k:∀q,l9 o=af q->bK m' q=bK m q):GO m' o o':=by
 rcases o with _|_|_|_|_|_|_|⟨q,L⟩|_|_
 case enc=>exact cP (λ aa=> .imp λ aa=> .imp λ aa=> .imp λ aa=> .imp_right<| .imp_left (k q rfl).trans) h
 all_goals exact h
theorem GM.at{t:ae TO}{m:ae AO}(g:GM t m){i:Nat}{o:TO}(h:gR t i=af o):∃o',bK m i=af o'/\GO m o o':=g.get i o h
theorem GM.nq{t:ae TO}{m:ae AO}(g:GM t m){i:Nat}{o:TO}(h:gR t i=af o)(nb:wy o=false)(j:Nat)(x:TO)(q:Nat)(hj:gR t j=af x)(hq:l9 x=af q):q≠i:=
 λ z=>ay ((ah wy (ak (h.symm.trans (z▸g.enc j x q hj hq)))).symm.trans nb)
theorem GM.set{t:ae TO}{m:ae AO}(g:GM t m){i:Nat}{o o₁:TO}{lY:AO}(h:gR t i=af o)(nb:wy o=false)(h1:GO m o₁ lY)(e1:l9 o₁=none\/l9 o₁=l9 o):GM (qV t i o₁) (bz m i lY):=
 have nq:=g.nq h nb
 have e2:∀q,l9 o₁=af q->l9 o=af q:=λ q e=>e1.elim (λ n=>cu (n.symm.trans e)) λ z=>z.symm.trans e
 ⟨(sZ ..).trans (g.len.trans (fF ..).symm),
  λ j x hj=>o0 hj (λ z y=>z.symm▸y.symm▸⟨lY,iU (g.len▸qf h),h1.frame λ q hq=>dT (nq i o q h (e2 q hq))⟩)
   λ n hj=>(g.get j x hj).imp λ o'=> .imp (dT n).trans (GO.frame · λ q hq=>dT (nq j x q hj hq)),
  λ j x q hj hq=>o0 hj (λ aa y=>have hq:=e2 q (y▸hq); (lq (nq i o q h hq)).trans (g.enc i o q h hq)) λ aa hj=>(lq (nq j x q hj hq)).trans (g.enc j x q hj hq)⟩
theorem GM.app{t:ae TO}{m:ae AO}(g:GM t m){o:TO}{o':AO}(h:GO m o o')(e:l9 o=none):GM (t++[o]) (m++[o']):=
 have nl:∀q,gR t q=af .ba->q≠m.length:=λ q hq z=>fj _ (z▸g.len▸qf hq)
 ⟨by rw[bh,bh,g.len]; rfl,
  λ j x hj=>w9 hj (λ z y=>(z.trans g.len)▸y▸⟨o',p8,h.frame λ q hq=>cu (e.symm.trans hq)⟩)
   λ hj=>(g.get j x hj).imp λ o'=> .imp (r4 λ z=>fj _ (z▸g.len▸qf hj)).trans (GO.frame · λ q hq=>r4 (nl q (g.enc j x q hj hq))),
  λ j x q hj hq=>w9 hj (λ aa y=>cu (e.symm.trans (y▸hq))) λ hj=>w_ (g.enc j x q hj hq)⟩
noncomputable def ob{α β:Type}(x:aq α)(f:α->aq β):aq β:=Option.rec (motive:=λ aa=>aq β) none f x
theorem ob.u{α β:Type}{x:aq α}{f:α->aq β}{y:β}{Q:Prop}(h:ob x f=af y)(k:∀a,x=af a->f a=af y->Q):Q:=by
 rcases x with _|a
 ·exact cu h
 ·exact k a rfl h
theorem Mf{α β:Type}{x:aq α}{f:α->aq β}{y:β}(h:ob x f=af y):∃a,x=af a/\f a=af y:=ob.u h λ a e h=>⟨a,e,h⟩
noncomputable def nB{α:Type}(b:aC)(x:aq α):aq α:=Bool.rec (motive:=λ aa=>aq α) none x b
theorem nB.u{α:Type}{b:aC}{x:aq α}{y:α}{Q:Prop}(h:nB b x=af y)(k:b=true->x=af y->Q):Q:=by
 rcases b
 ·exact cu h
 ·exact k rfl h
noncomputable def jK{α β:Type}:(x:aq α)->((a:α)->x=af a->aq β)->aq β
 |some a,f=>f a rfl
 |none,_=>none
noncomputable def bE{β:Type}:(b:aC)->(b=true->aq β)->aq β
 |true,f=>f rfl
 |false,_=>none
theorem bE.u{β:Type}{b:aC}{f:b=true->aq β}{y:β}{Q:Prop}(h:bE b f=af y)(k:∀e:b=true,f e=af y->Q):Q:=by
 rcases b
 ·exact cu h
 ·exact k rfl h
noncomputable def oe{α:Type}(x y:aq α):aq α:=Option.rec (motive:=λ aa=>aq α) y af x
noncomputable def nK(t:TV):aq {p:Nat // t= .ex (.own p)}:=match t with
 | .ex (.own p)=>af ⟨p,rfl⟩
 |_=>none
noncomputable def Sq(t:TV):aq {c:au×ae Nat×ae AV // t= .ex (.inst c.1 c.2.1 c.2.2)}:=match t with
 | .ex (.inst C ks vs)=>af ⟨(C,ks,vs),rfl⟩
 |_=>none
noncomputable def G3(o:TO):aq {c:au×Nat // o= .inst c.1 c.2}:=match o with
 | .inst C j=>af ⟨(C,j),rfl⟩
 |_=>none
noncomputable def oNs(o:TO):aq {c:ae Nat×ae TV // o= .ns c.1 c.2}:=match o with
 | .ns ks vs=>af ⟨(ks,vs),rfl⟩
 |_=>none
noncomputable def oKs(o:TO):aq {ks:ae Nat // ∀m o',GO m o o'->∃us,o'= .ns ks us}:=match o with
 | .ns ks vs=>af ⟨ks,λ aa aa=>cP λ aa=>eD⟩
 | .enc _ _=>af ⟨[13,14,15,16],λ aa aa g=>aD g λ aa g=>g.elim λ aa g=>g.elim λ aa g=>g.elim λ aa g=>⟨_,g.1⟩⟩
 |_=>none
noncomputable def oLst(o:TO):aq {c:ae TV // o= .lst c}:=match o with
 | .lst vs=>af ⟨vs,rfl⟩
 |_=>none
noncomputable def oIl(o:TO):aq {c:ae (Int×Int) // o= .il c}:=match o with
 | .il vs=>af ⟨vs,rfl⟩
 |_=>none
noncomputable def Yh(o:TO):aq {c:ae Int×ae TV // o= .iM c.1 c.2}:=match o with
 | .iM ks vs=>af ⟨(ks,vs),rfl⟩
 |_=>none
noncomputable def oDct(o:TO):aq {c:ae (ae Int)×ae TV // o= .bG c.1 c.2}:=match o with
 | .bG ks vs=>af ⟨(ks,vs),rfl⟩
 |_=>none
noncomputable def Vg(t:TV):aq {c:ae Int // t= .ex (.row c)}:=match t with
 | .ex (.row c)=>af ⟨c,rfl⟩
 |_=>none
noncomputable def tRw(t:TV):aq {c:ae (Int×Int) // t= .rw c}:=match t with
 | .rw c=>af ⟨c,rfl⟩
 |_=>none
noncomputable def tTp(t:TV):aq {c:TV×TV // t= .tp c.1 c.2}:=match t with
 | .tp a b=>af ⟨(a,b),rfl⟩
 |_=>none
noncomputable def lg(t:TV):aq {i:Int // t= .ex (.int i)}:=match t with
 | .ex (.int i)=>af ⟨i,rfl⟩
 |_=>none
noncomputable def Ve(t:TV):aq {n:Nat // t= .Ju n}:=match t with
 | .Ju n=>af ⟨n,rfl⟩
 |_=>none
noncomputable def Y5(t:TV):aq {u:e7 // ∀v,GV t v->∃b,v= .bool b}:=match t with
 | .tb=>af ⟨(),λ v g=>g⟩
 | .ex (.bool b)=>af ⟨(),λ v g=>⟨b,g⟩⟩
 |_=>none
def VQ(l:ae (Int×Int)):Nat->aq (Int×Int):=Wm af none l
def Qe(l:ae (Int×Int))(i:Nat)(q:Int×Int):ae (Int×Int):=MU q l i
noncomputable def tFn(t:TV):aq {g:au // t= .ex (.fn g)}:=match t with
 | .ex (.fn g)=>af ⟨g,rfl⟩
 |_=>none
noncomputable def acu(t:TV):aq {g:au // t= .ex (.val (.ref g))}:=match t with
 | .ex (.val (.ref g))=>af ⟨g,rfl⟩
 |_=>none
noncomputable def Ss(t:TV):aq {u:e7 // t= .ex .none}:=match t with
 | .ex .none=>af ⟨(),rfl⟩
 |_=>none
noncomputable def D2{α β:Type}(R:(α->St->Prop)->Prop)(g:β->α->Prop)(outs:ae (β×AS)):Prop:=
 ∃a σ,(∃o∈outs,g o.1 a/\GS o.2 σ)/\∀K:α->St->Prop,K a σ->R K
def Ab{α β:Type}(ab:AS->aq (ae (β×AS)))(run:St->(α->St->Prop)->Prop)(g:β->α->Prop):Prop:=
 ∀s outs,ab s=af outs->∀σ,GS s σ->D2 (run σ) g outs
noncomputable def bOl{β γ:Type}(f:β->AS->aq (ae (γ×AS)))(l:ae (β×AS)):aq (ae (γ×AS)):=o8 (motive:=λ aa=>aq (ae (γ×AS))) (af []) (λ o aa k=>ob (f o.1 o.2) λ l=>ob k λ l'=>af (l.append l')) l
noncomputable def bO{β γ:Type}(x:aq (ae (β×AS)))(f:β->AS->aq (ae (γ×AS))):aq (ae (γ×AS)):=ob x λ l=>bOl f l
section
variable{α α' β VD:Type}{g:β->α->Prop}{g':VD->α'->Prop}
theorem J7{f:β->AS->aq (ae (VD×AS))}:∀{l:ae (β×AS)} {outs:ae (VD×AS)},bOl f l=af outs->∀o∈l,∃l',f o.1 o.2=af l'/\∀p∈l',p∈outs
 |[],_=>λ aa aa ho=>bt ho bN
 |x::r,outs=>λ h o ho=>ob.u h λ l e h=>ob.u h λ l' e2 h=>ak h▸(bW.mp ho).elim (λ z=>z▸⟨l,e,λ aa=>dx _⟩)
   λ ho=>(J7 e2 o ho).imp λ aa=> .imp_right λ b p hp=>dH _ (b p hp)
theorem D2.up{R:(α->St->Prop)->Prop}{l l':ae (β×AS)}(h:D2 R g l)(k:∀p∈l,p∈l'):D2 R g l':=
 h.imp λ aa=> .imp λ aa=> .imp_left<| .imp λ o=> .imp_left (k o)
theorem D2.ret{b:β}{a:α}{s:AS}{σ:St}(ga:g b a)(gs:GS s σ):D2 (λ K=>K a σ) g [(b,s)]:=⟨a,σ,⟨_,aZ.mpr rfl,ga,gs⟩,λ aa k=>k⟩
theorem D2.u{R:(α->St->Prop)->Prop}{l:ae (β×AS)}{Q:Prop}(h:D2 R g l)(k:∀a σ b s,(b,s)∈l->g b a->GS s σ->(∀K:α->St->Prop,K a σ->R K)->Q):Q:=
 h.elim λ a h=>h.elim λ σ h=>h.1.elim λ o m=>k a σ o.1 o.2 m.1 m.2.1 m.2.2 h.2
theorem D2.bind{R:(α->St->Prop)->Prop}{l:ae (β×AS)}{f:β->AS->aq (ae (VD×AS))}{outs:ae (VD×AS)}{C:α->St->(α'->St->Prop)->Prop}(h:D2 R g l)(e:bOl f l=af outs)
  (k:∀b s l',f b s=af l'->∀a σ,g b a->GS s σ->D2 (C a σ) g' l'):D2 (λ K=>R λ a σ=>C a σ K) g' outs:=
 h.u λ a σ b s m ga gs r=>(J7 e _ m).elim λ l' e=>((k b s l' e.1 a σ ga gs).up e.2).imp λ aa=> .imp λ aa=> .imp_right λ r' K z=>r _ (r' K z)
theorem Ab.bind{ab:AS->aq (ae (β×AS))}{run:St->(α->St->Prop)->Prop}{f:β->AS->aq (ae (VD×AS))}{outs:ae (VD×AS)}{C:α->St->(α'->St->Prop)->Prop}{s:AS}{σ:St}(h:Ab ab run g)(e:bO (ab s) f=af outs)(gs:GS s σ)
  (k:∀b s l',f b s=af l'->∀a σ,g b a->GS s σ->D2 (C a σ) g' l'):D2 (λ K=>run σ λ a σ=>C a σ K) g' outs:=ob.u e λ l q e=>(h s l q σ gs).bind e k
theorem D2.eq{R R':(α->St->Prop)->Prop}{l:ae (β×AS)}(h:D2 R g l)(k:∀K,R K->R' K):D2 R' g l:=h.imp λ aa=> .imp λ aa=> .imp_right λ r K z=>k K (r K z)
theorem D2.one{b:β}{a:α}{s:AS}{σ:St}{outs:ae (β×AS)}{R:(α->St->Prop)->Prop}(h:af [(b,s)]=af outs)(ga:g b a)(gs:GS s σ)(k:∀K:α->St->Prop,K a σ->R K):D2 R g outs:=ak h▸(D2.ret ga gs).eq k
end
section
variable{t t':TV}{ts:ae TV}{us:ae AV}{Q:ae AV->Prop}
theorem dD.u0(h:dD [] us)(k:Q []):Q us:=(show us=[] from h)▸k
theorem dD.uc(h:dD (t::ts) us)(k:∀u r,GV t u->dD ts r->Q (u::r)):Q us:=aD h λ u h=>h.elim λ r h=>h.1▸k u r h.2.1 h.2.2
theorem dD.u1(h:dD [t] us)(k:∀u,GV t u->Q [u]):Q us:=h.uc (Q:=Q) λ u aa g h=>h.u0 (Q:=λ r=>Q (u::r)) (k u g)
theorem dD.u2(h:dD [t,t'] us)(k:∀u v,GV t u->GV t' v->Q [u,v]):Q us:=h.uc (Q:=Q) λ u aa g h=>h.u1 (Q:=λ r=>Q (u::r)) λ v=>k u v g
theorem dD.cons{u:AV}(g:GV t u)(h:dD ts us):dD (t::ts) (u::us):=⟨u,us,rfl,g,h⟩
end
theorem dD.len:∀{ts:ae TV} {us:ae AV},dD ts us->us.length=ts.length
 |[],_=>λ h=>h.u0 (Q:=λ us=>us.length=0) rfl
 |_::ts,_=>λ h=>h.uc (Q:=λ us=>us.length=ts.length+1) λ aa aa aa h=>ah (·+1) (dD.len h)
theorem qZ.u0{r:ae Int}{Q:ae Int->Prop}(h:qZ [] r)(k:Q []):Q r:=(show r=[] from h)▸k
theorem qZ.uc{q:Int×Int}{qs:ae (Int×Int)}{r:ae Int}{Q:ae Int->Prop}(h:qZ (q::qs) r)(k:∀x xs,q.1<=x->x<=q.2->qZ qs xs->Q (x::xs)):Q r:=aD h λ x h=>h.elim λ xs h=>h.1▸k x xs h.2.1 h.2.2.1 h.2.2.2
theorem qZ.len:∀{q:ae (Int×Int)} {r:ae Int},qZ q r->r.length=q.length
 |[],_=>λ h=>h.u0 (Q:=λ r=>r.length=0) rfl
 |_::q,_=>λ h=>h.uc (Q:=λ r=>r.length=q.length+1) λ aa aa aa aa h=>ah (·+1) h.len
theorem dD.snoc{t:TV}{u:AV}(g:GV t u):∀{ts:ae TV} {us:ae AV},dD ts us->dD (ts++[t]) (us++[u])
 |[],_=>λ h=>h.u0 (Q:=λ us=>dD [t] (us++[u])) (.cons g rfl)
 |x::ts,_=>λ h=>h.uc (Q:=λ us=>dD (x::(ts++[t])) (us++[u])) λ aa aa a h=> .cons a (dD.snoc g h)
section
variable{κ:Type}{e:κ->κ->aC}{x:κ}{t:TV}
theorem z7:∀{ks:ae κ} {ts:ae TV} {us:ae AV},dD ts us->ES e ks ts x=af t->∃u,ES e ks us x=af u/\GV t u
 |[],_,_=>λ aa h=>cu h
 |_::_,[],_=>λ aa h=>cu h
 |k::ks,t'::ts,_=>λ g h=>g.uc (Q:=λ us=>∃u,ES e (k::ks) us x=af u/\GV t u) λ u us g gs=>condB h (λ e h=>⟨u,u_ e,ak h▸g⟩)
   λ e h=>(z7 gs h).imp λ aa=> .imp_left (sH e).trans
theorem qa{u:AV}(g:GV t u):∀{ks:ae κ} {ts:ae TV} {us:ae AV},ks.length=ts.length->dD ts us->dD (jS e ks ts x t) (jS e ks us x u)
 |[],[],_=>λ aa h=>h.u0 (Q:=λ us=>dD [t] (jS e [] us x u)) (.cons g rfl)
 |k::ks,t'::ts,_=>λ l h=>h.uc (Q:=λ us=>dD (jS e (k::ks) (t'::ts) x t) (jS e (k::ks) us x u)) λ w us a h=>by
  cases q:e k x with
  |true=>rw[n_ q,n_ q]; exact .cons g h
  |false=>rw[k_ q,k_ q]; exact .cons a (qa g (eG l) h)
 |[],_::_,_=>λ l=>bt l.symm (cx _)
 |_::_,[],_=>λ l=>bt l (cx _)
end
noncomputable def l6:TV->aq (Int×Int)
 | .ex (.int i)=>af (i,i)
 | .rg l u=>af (l,u)
 | .nr _ l u=>af (l,u)
 |_=>none
theorem l6.u{t:TV}{q:Int×Int}{v:AV}{Q:AV->Prop}(e:l6 t=af q)(g:GV t v)(k:∀i,q.1<=i->i<=q.2->Q (.int i)):Q v:=by
 rcases t with w|_|_|_|_|_|_|_|_|_|_
 ·rcases w with _|_|_|i|_|_|_|_|_|_|_|_|_|_|_|_|_|_
  all_goals first|exact cu e|exact(show v=_ from g)▸k i (ak e▸dR i) (ak e▸dR i)
 all_goals first|exact cu e|skip
 ·exact aD g λ i g=>g.1▸k i (ak e▸g.2.1) (ak e▸g.2.2)
 ·exact(eD g)▸k _ (ak e▸(eD (f4 g))) (ak e▸(f4 (f4 g)))
noncomputable def tI(t:TV):aq {u:e7 // ∀v,GV t v->∃i,v= .int i}:=match t with
 | .ai=>af ⟨(),λ v g=>g⟩
 | .rg _ _=>af ⟨(),λ aa=>cP λ aa=>eD⟩
 | .nr v _ _=>af ⟨(),λ aa g=>⟨v,g.1⟩⟩
 | .ex (.int i)=>af ⟨(),λ v g=>⟨i,g⟩⟩
 |_=>none
noncomputable def R5(q:Int×Int):TV:=aY (decide (q.1=q.2)) (.ex (.int q.1)) (.rg q.1 q.2)
theorem tL{q:Int×Int}{i:Int}(h0:q.1<=i)(h1:i<=q.2):GV (R5 q) (.int i):=by
 unfold R5
 by_cases e:q.1=q.2
 ·exact(cy e)▸ah AV.int (eY (e▸h1) h0)
 ·exact(dh e)▸⟨i,rfl,h0,h1⟩
theorem c2{α β γ:Type}{f:α->β->γ}{a a':α}{b b':β}(h:a=a')(k:b=b'):f a b=f a' b':=h▸k▸rfl
noncomputable def yD:ae AV->ae TV
 |v::r=> .ex v::yD r
 |[]=>[]
theorem k8:∀l:ae AV,dD (yD l) l
 |[]=>rfl
 |v::r=>⟨v,r,rfl,rfl,k8 r⟩
noncomputable def dE{p:Prop}{β:Type}:fA p->(p->aq β)->aq β
 | .isTrue h,f=>f h
 | .isFalse _,_=>none
noncomputable def Uo(v:AV):aq {l:ae AV // v= .lst l}:=match v with
 | .lst l=>af ⟨l,rfl⟩
 |_=>none
abbrev IsV(t:TV)(v:AV):Prop:=∀x,GV t x->x=v
abbrev V4(t:ae TV)(v:ae AV):Prop:=∀x,dD t x->x=v
noncomputable def toAV:(t:TV)->aq {v:AV // IsV t v}
 | .ex v=>af ⟨v,λ aa g=>g⟩
 | .tp a b=>ob (toAV a) λ x=>ob (toAV b) λ y=>af ⟨.tup [x.1,y.1],λ aa g=>aD g λ aa g=>g.elim λ aa g=>g.1.trans (c2 (f:=λ x y=>AV.tup [x,y]) (x.2 _ g.2.1) (y.2 _ g.2.2))⟩
 | .ln=>af ⟨.lst [],λ aa g=>g⟩
 | .lc h t=>ob (toAV h) λ y=>ob (toAV t) λ ys=>ob (Uo ys.1) λ l=>af ⟨.lst (y.1::l.1),λ aa g=>aD g λ aa g=>g.elim λ aa g=>g.1.trans (c2 (f:=λ x y=>AV.lst (x::y)) (y.2 _ g.2.1) (AV.lst.inj ((ys.2 _ g.2.2).trans l.2)))⟩
 | .nr v _ _=>af ⟨.int v,λ aa g=>g.1⟩
 | .rg l u=>dE (nO l u) λ h=>af ⟨.int l,λ aa g=>aD g λ i g=>g.1.trans (ah _ (eY (h▸g.2.2) g.2.1))⟩
 |_=>none
noncomputable def toAVs:(t:ae TV)->aq {v:ae AV // V4 t v}
 |[]=>af ⟨[],λ aa g=>g⟩
 |t::r=>ob (toAV t) λ x=>ob (toAVs r) λ y=>af ⟨x.1::y.1,λ aa g=>g.uc (Q:=λ z=>z=x.1::y.1) λ aa aa g1 g2=>c2 (x.2 _ g1) (y.2 _ g2)⟩
noncomputable def toIs:(q:ae (Int×Int))->aq {v:ae Int // ∀x,qZ q x->x=v}
 |[]=>af ⟨[],λ aa g=>g⟩
 |t::r=>dE (nO t.1 t.2) λ h=>ob (toIs r) λ y=>af ⟨t.1::y.1,λ aa g=>g.uc (Q:=λ z=>z=t.1::y.1) λ aa aa g0 g1 g2=>c2 (eY (h▸g1) g0) (y.2 _ g2)⟩
theorem Z4{vs:ae TV}(x:{v:ae AV // V4 vs v}){f:ae AV->AO}{a:AO}(h:∃us,a=f us/\dD vs us):a=f x.1:=h.elim λ aa h=>h.1.trans (ah f (x.2 _ h.2))
def toAO(o:TO):aq {a:AO // ∀m x,GO m o x->x=a}:=match o with
 | .ns ks vs=>ob (toAVs vs) λ x=>af ⟨.ns ks x.1,λ aa aa=>Z4 x⟩
 | .inst C j=>af ⟨.inst C j,λ aa aa g=>g⟩
 | .lst vs=>ob (toAVs vs) λ x=>af ⟨.lst x.1,λ aa aa=>Z4 x⟩
 | .il q=>ob (toIs q) λ x=>af ⟨.il x.1,λ aa aa g=>aD g λ aa g=>g.1.trans (ah _ (x.2 _ g.2))⟩
 | .iM ks vs=>ob (toAVs vs) λ x=>af ⟨.iM ks x.1,λ aa aa=>Z4 x⟩
 | .bG ks vs=>ob (toAVs vs) λ x=>af ⟨.bG ks x.1,λ aa aa=>Z4 x⟩
 | .ix r=>af ⟨.il r,λ aa aa g=>g⟩
 |_=>none
abbrev JH(t:ae TO)(m:ae AO):Prop:=∀mm m',m'.length=t.length->(∀i o,gR t i=af o->∃o',bK m' i=af o'/\GO mm o o')->m'=m
theorem JH.cons{t:TO}{r:ae TO}{a:AO}{m:ae AO}(x:∀m x,GO m t x->x=a)(y:JH r m):JH (t::r) (a::m):=by
 rintro mm (_|⟨b,m'⟩) l h
 ·exact bt l.symm (cx _)
 ·exact(h 0 t rfl).elim λ o g=>c2 ((ak g.1).trans (x _ _ g.2)) (y mm m' (eG l) λ i=>h (i+1))
noncomputable def toAOs:(t:ae TO)->aq {m:ae AO // JH t m}
 |[]=>af ⟨[],λ aa m' l aa=>cX.mp l⟩
 |t::r=>ob (toAO t) λ x=>ob (toAOs r) λ y=>af ⟨x.1::y.1,JH.cons x.2 y.2⟩
theorem St.eq{a b:St}(h:a.loc=b.loc)(k:a.mem=b.mem):a=b:=by rcases a; rcases b; exact c2 h k
def toSt(s:AS):aq {σ:St // ∀x,GS s x->x=σ}:=ob (toAVs s.loc) λ l=>ob (toAOs s.mem) λ m=>af ⟨⟨l.1,m.1⟩,λ x g=>St.eq (l.2 _ g.loc) (m.2 x.mem x.mem g.mem.len.symm g.mem.get)⟩
def ab3(a:AO):aq {o:TO // l9 o=none/\∀m,GO m o a}:=match a with
 | .ns ks vs=>af ⟨.ns ks (yD vs),rfl,λ aa=>⟨vs,rfl,k8 vs⟩⟩
 | .inst C j=>af ⟨.inst C j,rfl,λ aa=>rfl⟩
 | .lst vs=>af ⟨.lst (yD vs),rfl,λ aa=>⟨vs,rfl,k8 vs⟩⟩
 | .iM ks vs=>af ⟨.iM ks (yD vs),rfl,λ aa=>⟨vs,rfl,k8 vs⟩⟩
 | .bG ks vs=>af ⟨.bG ks (yD vs),rfl,λ aa=>⟨vs,rfl,k8 vs⟩⟩
 | .il r=>af ⟨.ix r,rfl,λ aa=>rfl⟩
 | .ba _=>none
 | .tab=>none
abbrev H1(t:ae TO)(m:ae AO):Prop:=t.length=m.length/\∀i o,gR t i=af o->l9 o=none/\∃a,bK m i=af a/\∀mm,GO mm o a
theorem H1.cons{t:TO}{r:ae TO}{a:AO}{m:ae AO}(x:l9 t=none/\∀m,GO m t a)(y:H1 r m):H1 (t::r) (a::m):=by
 refine⟨ah (·+1) y.1,?_⟩
 rintro (_|i) o h
 ·exact ak h▸⟨x.1,a,rfl,x.2⟩
 ·exact y.2 i o h
noncomputable def Mg:(m:ae AO)->aq {t:ae TO // H1 t m}
 |[]=>af ⟨[],rfl,λ aa aa=>cu⟩
 |a::r=>ob (ab3 a) λ x=>ob (Mg r) λ y=>af ⟨x.1::y.1,H1.cons x.2 y.2⟩
theorem CQ{m:ae AO}{t:ae TO}(h:H1 t m):GM t m:=
 ⟨h.1,λ i o e=>(h.2 i o e).2.imp λ aa=> .imp_right (· m),λ i o q e hq=>cu ((h.2 i o e).1.symm.trans hq)⟩
def Ym(σ:St):aq {s:AS // GS s σ}:=ob (Mg σ.mem) λ t=>af ⟨⟨yD σ.loc,t.1⟩,k8 σ.loc,CQ t.2⟩
noncomputable abbrev tv(R:(AV->St->Prop)->Prop)(r:AV×St):Prop:=∀K:AV->St->Prop,K r.1 r.2->R K
def exO{R:(AV->St->Prop)->Prop}(x:aq {r:AV×St // tv R r}):aq (ae (TV×AS)):=ob x λ r=>ob (Ym r.1.2) λ s=>af [(.ex r.1.1,s.1)]
theorem KJ{R:(AV->St->Prop)->Prop}{x:aq {r:AV×St // tv R r}}{outs:ae (TV×AS)}(h:exO x=af outs):D2 R GV outs:=
 ob.u h λ r aa h=>ob.u h λ s aa h=>D2.one h rfl s.2 r.2
def WY{lQ:AV->St->(AV->St->Prop)->Prop}(g:(a:AV)->(σ:St)->aq {r:AV×St // tv (lQ a σ) r})(t:TV)(s:AS):aq (ae (TV×AS)):=ob (toAV t) λ a=>ob (toSt s) λ σ=>exO (g a.1 σ.1)
theorem zN{lQ:AV->St->(AV->St->Prop)->Prop}{g:(a:AV)->(σ:St)->aq {r:AV×St // tv (lQ a σ) r}}:∀t s outs a σ,WY g t s=af outs->GV t a->GS s σ->D2 (lQ a σ) GV outs:=λ aa aa aa aa aa h ga gs=>
 ob.u h λ a' aa h=>ob.u h λ bZ aa h=>(a'.2 _ ga).symm▸(bZ.2 _ gs).symm▸KJ h
def ex2{lQ:AV->AV->St->(AV->St->Prop)->Prop}(g:(a b:AV)->(σ:St)->aq {r:AV×St // tv (lQ a b σ) r})(t u:TV)(s:AS):aq (ae (TV×AS)):=ob (toAV t) λ a=>ob (toAV u) λ b=>ob (toSt s) λ σ=>exO (g a.1 b.1 σ.1)
theorem Tu{lQ:AV->AV->St->(AV->St->Prop)->Prop}{g:(a b:AV)->(σ:St)->aq {r:AV×St // tv (lQ a b σ) r}}:∀t u s outs a b σ,ex2 g t u s=af outs->GV t a->GV u b->GS s σ->D2 (lQ a b σ) GV outs:=λ aa aa aa aa aa aa aa h ga gb gs=>
 ob.u h λ a' aa h=>ob.u h λ b' aa h=>ob.u h λ bZ aa h=>(a'.2 _ ga).symm▸(b'.2 _ gb).symm▸(bZ.2 _ gs).symm▸KJ h
noncomputable def my(A:bn)(d:Nat):Prop:=A.depth+3 * d < 990/\A.units+12 * d < 9800/\A.handled=none
theorem my.less{A:bn}{d e:Nat}(h:my A d)(le:e<=d):my A e:=⟨aS (hF (jB 3 le) _) h.1,aS (hF (jB 12 le) _) h.2.1,h.2.2⟩
noncomputable def tu(K:f_)(C:au)(x:bM):aC:=
 plainGet K C x&&hasDictIn K C&&(match findIn K (.ref C) x with|some a=>noGet K a|none=>false)&&
 (findIn K (.ref C) "__setattr__"==af (af (.builtin "object.__setattr__")))&&plainOver K C&&(takerIn K C x==af none)
noncomputable def xJ(K:f_)(C fi:au):aC:=makesIn K C&&(findIn K (.ref C) "__init__"==af (af (.ref fi)))&&(typeIn K (.ref fi)==af (.type "function"))&&keepIn K (.ref C)
noncomputable def nz(K:f_)(C:au)(x:bM)(g:au):aC:=plainGet K C x&&(findIn K (.ref C) x==af (af (.ref g)))&&(typeIn K (.ref g)==af (.type "function"))&&fnIn K g
theorem aG{a b:aC}(h:(a&&b)=true):a=true/\b=true:=cz.mp h
noncomputable def kE(e:aB):Nat:=match e with
 | .Slice .. =>1
 | .ListComp .. =>2
 | .SetComp .. =>2
 | .DictComp .. =>2
 | .Set .. =>3
 | .UnaryOp .. =>4
 | .BoolOp .. =>4
 | .IfExp .. =>4
 | .Compare .. =>4
 | .Call .. =>5
 | .Name .. =>6
 |_=>0
noncomputable def vg(n:Nat)(e:aB):aC:=!a_ (kE e) n
noncomputable def isNm(e:aB):aC:=a_ (kE e) 6
theorem Hr{i:aB}(h:vg 1 i=true):(∀o v,subscripted i false o v=DI [o,v] (getItem o v))/\∀ov iv new,augStore i ov iv new=(do holding [new,ov,iv] (eP ov iv new); release [new,ov,iv] []; pure .next):=by
 cases i
 case Slice=>exact ay h
 all_goals exact⟨λ aa aa=>rfl,λ aa aa aa=>rfl⟩
theorem Hv{e:aB}(h:vg 2 e=true){t:aq aB}{l:Nat}{env:Env}:oy e t l env=pure false:=by
 cases e
 case ListComp=>exact ay h
 case SetComp=>exact ay h
 case DictComp=>exact ay h
 all_goals rfl
theorem w8{e:aB}(h:vg 3 e=true):(∀env x,d_ e env x=pure x)/\∀op,pJ op e=false:=by
 cases e
 case Set=>exact ay h
 all_goals exact⟨λ aa aa=>rfl,λ aa=>rfl⟩
theorem Ze{e:aB}(h:vg 4 e=true){env:Env}{whole:ie am}:isTrue e env whole=(do let v ← whole; di e.pos; holding [v] (truthy v)):=by
 cases e
 case UnaryOp=>exact ay h
 case BoolOp=>exact ay h
 case IfExp=>exact ay h
 case Compare=>exact ay h
 all_goals rfl
theorem Rr{e:aB}(h:vg 5 e=true)(x:bM)(env:Env)(whole:ie am):attributeBase e x env whole=whole:=by
 cases e
 case Call=>exact ay h
 all_goals rfl
theorem wH{e:aB}(h:isNm e=true):∃x q,e= .Name x q:=by
 cases e
 case Name=>exact⟨_,_,rfl⟩
 all_goals exact ay h
theorem mc_eq{o:aB}{args:ae (aC×ie am)}{ap p:c7}{n:Nat}(hp:(ap.endLine==p.line)=true)(hf:methodCallForm n args []=true)(x:bM)(env:Env)(ov:am):methodCall o x ap p env ov n args []=(do
   let (f,first) ← holding [ov] (fD ov x (do return (← importBound o env).getD true))
   callWith p f first args []):=by
 unfold methodCall
 rw[hf,show methodCallPos true o env ap p=pure p from dj hp]
 rfl
noncomputable abbrev PK(o:aB)(as:ae aB)(ap p:c7)(x:bM)(env:Env):Prop:=∃pl,eval (.Call (.Attribute o x ap) as [] p) env=(do
   let ov ← eval o env
   di ap.atName
   let (f,first) ← holding [ov] (fD ov x pl)
   callWith p f first (backTo p (fw as env)) [])
noncomputable def mtB(o:aB)(as:ae aB)(ap p:c7):aC:=vg 5 o&&(ap.endLine==p.line&&fK as.length 30)
theorem GW{o:aB}{as:ae aB}{ap p:c7}(h:mtB o as ap p=true)(x:bM)(env:Env)(ha:(backTo p (fw as env)).any (·.1)=false):PK o as ap p x env:=by
 have h:=cz.mp h
 have h2:=cz.mp h.2
 have hf:methodCallForm as.length (backTo p (fw as env)) []=true:=cz.mpr ⟨cz.mpr ⟨(List.not_any_eq_all_not ..).symm.trans (ah Bool.not ha),rfl⟩,cy (aP h2.2)⟩
 refine⟨(do return (← importBound o env).getD true:ie aC),Eq.trans (b:=do
  let ov ← attributeBase o x env (eval o env)
  di ap.atName
  methodCall o x ap p env ov as.length (backTo p (fw as env)) []) rfl ?_⟩
 rw[Rr h.1]
 exact ah (eval o env>>=·) (funext λ ov=>ah (λ m=>di ap.atName>>=λ aa=>m) (mc_eq h2.1 hf x env ov))
structure cC where
 prog:aK
 w:bw
 K:f_
 gl:ae (bM×AV)
 at_:au->Nat->aC
 Φ:BM->Prop
 d:Nat
 j:aC
 mono:∀G G',dC G G'->Φ G->Φ G'
 base:∀G,Φ G->∃B p loose mg mb,K.In B/\nS p loose mg mb B/\∀a o,B.get? a=af o->G a=af o
 glob:∀G x v ρ,Φ G->gl.lookup x=af v->∃u,nsIn K dG x=af (af u)/\VR G ρ v u
 attr:∀C x,at_ C x=true->x < NM/\tu K C (nm x)=true
 I7:∀G,Φ G->∃o,G df=af o
 blt:ae bM
 BF:∀x,blt.contains x=true->nsIn K dG x=af none/\x≠"__name__"
 init:au->aq au
 EI:∀C fi,init C=af fi->xJ K C fi=true
 uR:au->Nat->aq au
 EX:∀C x g,uR C x=af g->x < NM/\nz K C (nm x) g=true
 cB:au->ae TV->ae TO->aq (ae (TV×ae TO))
noncomputable def cC.up(P:cC):cC:={P with d:=P.d+1}
noncomputable def cC.dn(P:cC):cC:={P with d:=P.d - 1}
structure Ct where
 names:ae (bM×dJ)
 aR:ae bM
 ro:aC:=false
 tb:aC:=false
 cq:aC:=false
noncomputable def v_:au:=681
noncomputable def dL:au:=677
noncomputable def Ud:bM:=bR "scan_conditioning"++".<locals>."
noncomputable def r9{α:Type}(o:aq α)(p:α->aC):aC:=match o with
 |some x=>p x
 |none=>false
theorem h_{α:Type}{o:aq α}{p:α->aC}{Q:Prop}(h:r9 o p=true)(k:∀x,o=af x->p x=true->Q):Q:=by
 rcases o with _|x
 ·exact ay h
 ·exact k x rfl h
noncomputable def iVB(i:Int)(v:am):aC:=match v with
 | .int j _=>decide (i=j)
 |_=>false
theorem Lj{i:Int}{v:am}(h:iVB i v=true):∃t,v= .int i t:=by
 rcases v with _|_|_|_|⟨j,t⟩|_|_|_|_|_|_
 case int=>exact⟨t,ah (eA · t) (a4 h).symm⟩
 all_goals exact ay h
noncomputable def x7(v:am)(p:au->aC):aC:=match v with
 | .ref a=>p a
 |_=>false
theorem ma{v:am}{p:au->aC}(h:x7 v p=true):∃a,v= .ref a/\p a=true:=by
 rcases v with _|_|_|_|_|_|_|_|_|_|a
 case ref=>exact⟨a,rfl,h⟩
 all_goals exact ay h
noncomputable def tyB(v:am)(n:cR):aC:=match v with
 | .type t=>t==n
 |_=>false
theorem Fw{v:am}{n:cR}(h:tyB v n=true):v= .type n:=by
 rcases v with _|_|_|_|_|_|_|_|t|_|_
 case type=>exact ah cQ (be.mp h)
 all_goals exact ay h
noncomputable def U5(o:Obj)(p:ae am->aC):aC:=match o.data with
 | .seq vs _=>p vs.toList
 |_=>false
theorem Hq{o:Obj}{p:ae am->aC}(h:U5 o p=true):∃vs n,o.data= .seq vs n/\p vs.toList=true:=by
 obtain⟨c,d,dt,sl⟩:=o
 cases dt
 case seq vs n=>exact⟨vs,n,rfl,h⟩
 all_goals exact ay h
noncomputable def plB(d:Data):aC:=match d with
 | .plain=>true
 |_=>false
theorem UD{d:Data}(h:plB d=true):d= .plain:=by
 cases d
 case plain=>rfl
 all_goals exact ay h
noncomputable def W9(o:Obj)(p:bD am->aC):aC:=match o.data with
 | .fields vs=>p vs
 |_=>false
theorem O4{o:Obj}{p:bD am->aC}{Q:Prop}(h:W9 o p=true)(k:∀vs,o.data= .fields vs->p vs=true->Q):Q:=by
 obtain⟨c,d,dt,sl⟩:=o
 cases dt
 case fields vs=>exact k vs rfl h
 all_goals exact ay h
noncomputable def Y2(v:am):aC:=match v with
 | .str _ _=>true
 |_=>false
noncomputable def T3(v:am):aC:=match v with
 | .int _ _=>true
 |_=>false
noncomputable def WA(v:am):aC:=match v with
 | .bool _=>true
 |_=>false
def bmB(K:f_):aC:=r9 (nsIn K dG "__builtins__") λ r=>r9 r λ v=>x7 v λ bm=>r9 (K.lookup bm) λ o=>tyB o.cls "module"&&(r9 o.dict (a_ · mq)&&(plB o.data&&(!a_ bm mq&&(!a_ bm dG&&!a_ bm dL))))
def lj(K:f_):aC:=bmB K&&r9 (K.lookup v_) λ o=>tyB o.cls "code"&&W9 o λ vs=>r9 (vs[11]?:aq am) λ v=>x7 v (a_ · dL)&&(Y2 (vs.getD 18 .none)&&(T3 (vs.getD 7 .none)&&(WA (vs.getD 9 .none)&&T3 (vs.getD 10 .none))))
noncomputable def GK(g g':bD d6):Prop:=(∀(i:Nat) (x:d6),g[i]?=af x->g'[i]?=af x)/\(AllBare g->AllBare g')
theorem GK.trans{a b c:bD d6}(x:GK a b)(y:GK b c):GK a c:=⟨λ i v e=>y.1 i v (x.1 i v e),λ h=>y.2 (x.2 h)⟩
def GZ(s s':ar):Prop:=GK s.gens s'.gens/\s'.os=s.os
theorem GZ.of{s s':ar}(z:s'.gens=s.gens/\s'.gens=s.gens/\s'.os=s.os):GZ s s':=⟨by rw[z.1]; exact⟨λ aa aa e=>e,id⟩,z.2.2⟩
theorem GZ.trans{a b c:ar}(x:GZ a b)(y:GZ b c):GZ a c:=⟨x.1.trans y.1,y.2.trans x.2⟩
inductive WQ(G:BM)(ρ:ae au)(s:ar)(K:AV->ae AO->Prop)(v:am)(s':ar):Prop
 |mk (G':BM) (ρ':ae au) (av:AV) (mem':ae AO) (h:dC G G'/\Ext ρ ρ'/\RM G' ρ' mem' s'.heap/\VR G' ρ' av v/\K av mem') (kp:∀a o,a∉ρ->s.heap.get? a=af o->s'.heap.get? a=af o)
  (nw:∀a∈ρ',a∈ρ\/s.heap.get? a=none) (gf:∀a o,G' a=af o->G a=af o\/s.heap.get? a=none) (gz:GZ s s')
def G7(Q:am->ar->Prop)(r:iP)(s':ar):Prop:=match r with | .ok (.ret v)=>Q v s'|_=>False
structure WC(P:cC)(f:au)(dr:ae AV)(mem:ae AO)(K:AV->ae AO->Prop):Prop where
 run:∀(A:bn) (G:BM) (ρ:ae au) (s:ar) (vs:ae am),my A P.d->P.Φ G->RM G ρ mem s.heap->bI G ρ dr vs->
  dO P.j (aE P.prog P.w) A (.call (.ref f) ⟨vs,[]⟩) (G7 (WQ G ρ s K)) s
def DW(P:cC)(f:au)(vs:ae AV)(m:ae AO)(outs:ae (TV×ae TO)):Prop:=∃v m',(∃o∈outs,GV o.1 v/\GM o.2 m')/\WC P f vs m λ v' Uq=>v'=v/\Uq=m'
def lT(P:cC):Prop:=∀f ts tm outs,P.cB f ts tm=af outs->∀vs m,dD ts vs->GM tm m->DW P.dn f vs m outs
structure Fd where
 A:bn
 env:Env
 h₀:Heap
 gE:ae au
 G₀:BM
 Z:ar
 ro:aC
noncomputable def At(env:Env)(h:Heap)(x:bM)(u:am):Prop:=
 (env.kindOf x=af .local/\∃m,h.Ns env.locals m/\m x=af u)\/
 ((env.kindOf x=af .cell\/env.kindOf x=af .free)/\∃c,env.cells.lookup x=af c/\h.IsCell c (af u))
theorem At.keeps{env:Env}{h h':Heap}{x:bM}{u:am}(a:At env h x u)(kL:∀o,h.get? env.locals=af o->h'.get? env.locals=af o)
  (kc:∀y c o,env.cells.lookup y=af c->h.get? c=af o->h'.get? c=af o):At env h' x u:=
 a.imp (.imp_right<| .imp λ aa=> .imp_left<| .imp λ aa=> .imp λ aa=> .imp λ aa=> .imp_left (kL _))
  (.imp_right<| .imp λ c k=>⟨k.1,k.2.imp λ o=> .imp_left (kc x c o k.1)⟩)
noncomputable def Fd.free(F:Fd)(a:au):Prop:=a≠F.env.locals/\(F.ro=false->∀x,F.env.kindOf x=af .cell->F.env.cells.lookup x≠af a)
structure gH(P:cC)(ct:Ct)(F:Fd):Prop where
 kind:F.env.scope.kind= .function
 names:F.env.scope.names=ct.names
 glob:F.env.globals=dG
 blt:F.env.builtins=mq
 room:my F.A P.d
 i7:P.Φ F.G₀
 vh:ct.aR.Nodup
 ro:F.ro=ct.ro
 cells:∀x,ct.names.lookup x=af .cell->∃c,F.env.cells.lookup x=af c
 tb:ct.tb=true->F.gE[0]?=af dL
 cq:ct.cq=true->F.env.code= .ref v_/\F.env.qual=Ud/\lj P.K=true
structure RF(F:Fd)(aR:ae bM)(G:BM)(ρ:ae au)(σ:St)(s:ar):Prop where
 rm:RM G ρ σ.mem s.heap
 ns:∃m,s.heap.Ns F.env.locals m
 loc:∀(i:Nat) (x:bM) (v:AV),aR[i]?=af x->σ.loc[i]?=af v->v≠ .undef->∃u,VR G ρ v u/\At F.env s.heap x u
 lG:G F.env.locals=none
 A3:F.env.locals∉ρ
 cell:∀x c,F.env.cells.lookup x=af c->c≠F.env.locals/\c∉ρ/\(∃v,s.heap.IsCell c v)/\(F.env.kindOf x=af .cell->G c=none)
 pY:∀x y c,F.env.cells.lookup x=af c->F.env.cells.lookup y=af c->x=y
 keep:∀a o,a∉F.gE->F.free a->F.h₀.get? a=af o->s.heap.get? a=af o
 live:∀a o,F.h₀.get? a=af o->∃o',s.heap.get? a=af o'
 ext:Ext F.gE ρ
 nw:∀a∈ρ,a∈F.gE\/F.h₀.get? a=none
 B9:dC F.G₀ G
 A2:∀a o,G a=af o->F.G₀ a=af o\/F.h₀.get? a=none
 gz:GZ F.Z s
section
variable{F:Fd}{aR:ae bM}{G G':BM}{ρ ρ':ae au}{σ:St}{s s':ar}
theorem RF.lo(R:RF F aR G ρ σ s):∃o,s.heap.get? F.env.locals=af o:=R.ns.elim λ aa h=>h.imp λ aa h=>h.elim λ aa h=>h.elim λ aa h=>h.1
theorem RF.co(R:RF F aR G ρ σ s){x:bM}{c:au}(e:F.env.cells.lookup x=af c):∃o,s.heap.get? c=af o:=(R.cell x c e).2.2.1.elim λ aa h=>h.imp λ aa=>eD
theorem RF.dead(R:RF F aR G ρ σ s){a:au}(h:s.heap.get? a=none):F.h₀.get? a=none:=none_of λ o e=>(R.live a o e).elim λ aa=>de h
theorem RF.Hs(R:RF F aR G ρ σ s){mem':ae AO}(x:Ext ρ ρ')(g:dC G G')(M:RM G' ρ' mem' s'.heap)
  (nw:∀a∈ρ',a∈ρ\/s.heap.get? a= .none) (gn:∀a o,G' a=af o->G a=af o\/s.heap.get? a= .none)
  (kp:∀a o,a∉ρ->s.heap.get? a=af o->s'.heap.get? a=af o) (z:GZ s s'):RF F aR G' ρ' ⟨σ.loc,mem'⟩ s':=
 have kc:∀y c o,F.env.cells.lookup y=af c->s.heap.get? c=af o->s'.heap.get? c=af o:=λ y c o e q=>kp c o (R.cell y c e).2.1 q
 have B_:∀a,G a=none->(∃o,s.heap.get? a=af o)->G' a=none:=λ a n y=>none_of λ o q=>(gn _ _ q).elim (de n) λ q=>y.elim λ aa=>de q
 have R9:∀a,a∉ρ->(∃o,s.heap.get? a=af o)->a∉ρ':=λ a n y hm=>(nw _ hm).elim n λ q=>y.elim λ aa=>de q
 {rm:=M
  ns:=R.ns.imp λ aa=> .imp λ aa=> .imp λ aa=> .imp λ aa=> .imp_left (kp _ _ R.A3)
  loc:=λ i x' v e e' n=>(R.loc i x' v e e' n).imp λ aa=> .imp (VR.up g x v) (At.keeps · (λ o e=>kp _ o R.A3 e) kc)
  lG:=B_ _ R.lG R.lo
  A3:=R9 _ R.A3 R.lo
  cell:=λ x' c e=>have h:=R.cell x' c e; ⟨h.1,R9 c h.2.1 (R.co e),h.2.2.1.imp λ aa=> .imp λ o=> .imp_left (kc x' c o e),λ k=>B_ c (h.2.2.2 k) (R.co e)⟩
  pY:=R.pY
  keep:=λ a o n f e=>kp a o (λ hm=>(R.nw a hm).elim n λ q=>de q e) (R.keep a o n f e)
  live:=λ a o e=>(R.live a o e).elim λ o' e'=>(d0 (a∈ρ)).elim (λ n=>M.some_of (x.mem n)) λ n=>⟨o',kp a o' n e'⟩
  ext:=R.ext.trans x
  nw:=λ a ha=>(nw a ha).elim (R.nw a) λ q=> .inr (R.dead q)
  B9:=R.B9.trans g
  A2:=λ a o e=>(gn a o e).elim (R.A2 a o) λ q=> .inr (R.dead q)
  gz:=R.gz.trans z}
theorem RF.step(R:RF F aR G ρ σ s){mem':ae AO}(x:Ext ρ ρ')(g:dC G G')(M:RM G' ρ' mem' s'.heap)
  (nw:∀a∈ρ',a∈ρ\/s.heap.get? a= .none) (gn:∀a o,G' a=af o->G a=af o\/s.heap.get? a= .none)
  (kp:∀a o,a∉ρ->s.heap.get? a=af o->s'.heap.get? a=af o) (z:s'.gens=s.gens/\s'.gens=s.gens/\s'.os=s.os):RF F aR G' ρ' ⟨σ.loc,mem'⟩ s':=R.Hs x g M nw gn kp (GZ.of z)
theorem RF.toks(R:RF F aR G ρ σ s)(t:Nat):RF F aR G ρ σ {s with toks:=t}:=
 ⟨R.rm,R.ns,R.loc,R.lG,R.A3,R.cell,R.pY,R.keep,R.live,R.ext,R.nw,R.B9,R.A2,R.gz⟩
theorem RF.grow(R:RF F aR G ρ σ s)(k:∀a o,s.heap.get? a=af o->s'.heap.get? a=af o)(z:s'.gens=s.gens/\s'.gens=s.gens/\s'.os=s.os):RF F aR G ρ σ s':=
 R.step (Ext.refl ρ) (dC.refl _) (R.rm.keeps k) (λ aa h=> .inl h) (λ aa aa e=> .inl e) (λ a o aa e=>k a o e) z
theorem RF.turn(R:RF F aR G ρ σ s){i:Nat}{a:au}{vR:AO}{o':Obj}(hi:ρ[i]?=af a)(he:s'.heap.get? a=af o')(q:OR G ρ vR o')
  (k:∀b o,b≠a->s.heap.get? b=af o->s'.heap.get? b=af o) (z:s'.gens=s.gens/\s'.gens=s.gens/\s'.os=s.os):RF F aR G ρ ⟨σ.loc,σ.mem.set i vR⟩ s':=
 R.step (Ext.refl ρ) (dC.refl _) (R.rm.turn hi he q k) (λ aa h=> .inl h) (λ aa aa e=> .inl e) (λ b o n e=>k b o (λ z=>n (z▸im hi)) e) z
theorem RF.new(R:RF F aR G ρ σ s){a:au}{ao:AO}{o:Obj}(ha:s.heap.get? a= .none)(he:s'.heap.get? a=af o)(q:OR G (ρ++[a]) ao o)
  (k:∀b o,s.heap.get? b=af o->s'.heap.get? b=af o) (z:s'.gens=s.gens/\s'.gens=s.gens/\s'.os=s.os):RF F aR G (ρ++[a]) ⟨σ.loc,σ.mem++[ao]⟩ s':=
 R.step (Ext.snoc ρ a) (dC.refl _) (R.rm.new ha he q k) (λ b hb=>(fJ.mp hb).imp_right λ hb=>(aZ.mp hb:b=a)▸ha) (λ aa aa e=> .inl e) (λ b o aa e=>k b o e) z
theorem RF.freeze(R:RF F aR G ρ σ s){a:au}{o:Obj}(ha:s.heap.get? a= .none)(he:s'.heap.get? a=af o)
  (k:∀b o,s.heap.get? b=af o->s'.heap.get? b=af o) (z:s'.gens=s.gens/\s'.gens=s.gens/\s'.os=s.os):RF F aR (G.with a o) ρ σ s'/\dC G (G.with a o):=by
 have q:=R.rm.freeze ha he k
 exact⟨R.step (Ext.refl ρ) q.2 q.1 (λ aa h=> .inl h) (λ b o' e=>BM.G6 e (λ z aa=> .inr (z▸ha)) .inl) (λ b o aa e=>k b o e) z,q.2⟩
end
inductive PE(F:Fd)(aR:ae bM)(G:BM)(ρ:ae au)(Kv:AV->St->Prop)(v:am)(s':ar):Prop
 |mk (G':BM) (ρ':ae au) (av:AV) (bZ:St) (g:dC G G') (x:Ext ρ ρ') (R:RF F aR G' ρ' bZ s') (va:VR G' ρ' av v) (k:Kv av bZ)
noncomputable abbrev dq:am->ar->Prop:=λ aa aa=>False
inductive PB(F:Fd)(aR:ae bM)(G:BM)(ρ:ae au)(Kb:aC->St->Prop)(b:aC)(s':ar):Prop
 |mk (G':BM) (ρ':ae au) (bZ:St) (g:dC G G') (x:Ext ρ ρ') (R:RF F aR G' ρ' bZ s') (k:Kb b bZ)
inductive Fl where
 |d7|ret (v:AV)
def FR(G:BM)(ρ:ae au):Fl->mo->Prop
 | .d7,f=>f= .next
 | .ret av,f=>∃v,f= .ret v/\VR G ρ av v
inductive PF(F:Fd)(aR:ae bM)(G:BM)(ρ:ae au)(Kf:Fl->St->Prop)(f:mo)(s':ar):Prop
 |mk (G':BM) (ρ':ae au) (fl:Fl) (bZ:St) (g:dC G G') (x:Ext ρ ρ') (R:RF F aR G' ρ' bZ s') (fr:FR G' ρ' fl f) (k:Kf fl bZ)
inductive PL(F:Fd)(aR:ae bM)(G:BM)(ρ:ae au)(Kv:ae AV->St->Prop)(vs:ae am)(s':ar):Prop
 |mk (G':BM) (ρ':ae au) (dr:ae AV) (bZ:St) (g:dC G G') (x:Ext ρ ρ') (R:RF F aR G' ρ' bZ s') (va:bI G' ρ' dr vs) (k:Kv dr bZ)
section
variable{F:Fd}{aR:ae bM}{G G':BM}{ρ ρ':ae au}
theorem PE.u{Kv:AV->St->Prop}{v:am}{s:ar}{Q:Prop}(z:PE F aR G ρ Kv v s)(k:∀G' ρ' av bZ,dC G G'->Ext ρ ρ'->RF F aR G' ρ' bZ s->VR G' ρ' av v->Kv av bZ->Q):Q:=PE.casesOn (motive:=λ aa=>Q) z k
theorem PB.u{Kv:aC->St->Prop}{v:aC}{s:ar}{Q:Prop}(z:PB F aR G ρ Kv v s)(k:∀G' ρ' bZ,dC G G'->Ext ρ ρ'->RF F aR G' ρ' bZ s->Kv v bZ->Q):Q:=PB.casesOn (motive:=λ aa=>Q) z k
theorem PF.u{Kv:Fl->St->Prop}{v:mo}{s:ar}{Q:Prop}(z:PF F aR G ρ Kv v s)(k:∀G' ρ' fl bZ,dC G G'->Ext ρ ρ'->RF F aR G' ρ' bZ s->FR G' ρ' fl v->Kv fl bZ->Q):Q:=PF.casesOn (motive:=λ aa=>Q) z k
theorem PL.u{Kv:ae AV->St->Prop}{v:ae am}{s:ar}{Q:Prop}(z:PL F aR G ρ Kv v s)(k:∀G' ρ' av bZ,dC G G'->Ext ρ ρ'->RF F aR G' ρ' bZ s->bI G' ρ' av v->Kv av bZ->Q):Q:=PL.casesOn (motive:=λ aa=>Q) z k
theorem PE.up{Kv:AV->St->Prop}{v:am}{s:ar}(g:dC G G')(x:Ext ρ ρ')(h:PE F aR G' ρ' Kv v s):PE F aR G ρ Kv v s:=h.u λ a b c d e f=> .mk a b c d (g.trans e) (x.trans f)
theorem PB.up{Kv:aC->St->Prop}{v:aC}{s:ar}(g:dC G G')(x:Ext ρ ρ')(h:PB F aR G' ρ' Kv v s):PB F aR G ρ Kv v s:=h.u λ a b d e f=> .mk a b d (g.trans e) (x.trans f)
theorem PF.up{Kv:Fl->St->Prop}{v:mo}{s:ar}(g:dC G G')(x:Ext ρ ρ')(h:PF F aR G' ρ' Kv v s):PF F aR G ρ Kv v s:=h.u λ a b c d e f=> .mk a b c d (g.trans e) (x.trans f)
theorem PE.here{Kv:AV->St->Prop}{av:AV}{σ:St}{v:am}{s:ar}(R:RF F aR G ρ σ s)(h:VR G ρ av v)(k:Kv av σ):PE F aR G ρ Kv v s:=⟨G,ρ,av,σ,dC.refl _,Ext.refl _,R,h,k⟩
end
inductive AF where
 |d7|ret (v:TV)
def GF:AF->Fl->Prop
 | .d7,f=>f= .d7
 | .ret t,f=>∃v,f= .ret v/\GV t v
structure SE(P:cC)(ct:Ct) where
 bA:aB
 run:St->(AV->St->Prop)->Prop
 b_:aC
 star:∀r env,fw (bA::r) env=(false,eval bA env)::fw r env
 ok:b_=true->∀F G ρ σ s Kv,gH P ct F->RF F ct.aR G ρ σ s->run σ Kv->cK P.j (aE P.prog P.w) F.A (eval bA F.env) (PE F ct.aR G ρ Kv) s
 ab:AS->aq (ae (TV×AS)):=λ aa=>none
 cN:lT P->Ab ab run GV:=by nofun
structure ST(P:cC)(ct:Ct) where
 bA:aB
 run:St->(aC->St->Prop)->Prop
 b_:aC
 ok:b_=true->∀F G ρ σ s Kv,gH P ct F->RF F ct.aR G ρ σ s->run σ Kv->cK P.j (aE P.prog P.w) F.A (isTrue bA F.env (eval bA F.env)) (PB F ct.aR G ρ Kv) s
 ab:AS->aq (ae (aC×AS)):=λ aa=>none
 cN:lT P->Ab ab run Eq:=by nofun
structure SX(P:cC)(ct:Ct) where
 bA:fW
 run:St->(Fl->St->Prop)->Prop
 b_:aC
 ok:b_=true->∀F G ρ σ s Kv,gH P ct F->RF F ct.aR G ρ σ s->run σ Kv->cK P.j (aE P.prog P.w) F.A (exec bA F.env) (PF F ct.aR G ρ Kv) s
 ab:AS->aq (ae (AF×AS)):=λ aa=>none
 cN:lT P->Ab ab run GF:=by nofun
structure SS(P:cC)(ct:Ct) where
 bA:ae fW
 run:St->(Fl->St->Prop)->Prop
 b_:aC
 ok:b_=true->∀F G ρ σ s Kv,gH P ct F->RF F ct.aR G ρ σ s->run σ Kv->cK P.j (aE P.prog P.w) F.A (execs bA F.env) (PF F ct.aR G ρ Kv) s
 ab:AS->aq (ae (AF×AS)):=λ aa=>none
 cN:lT P->Ab ab run GF:=by nofun
section
variable{P:cC}{ct:Ct}
noncomputable def x_(i:Int)(p:c7):SE P ct where
 bA:= .Constant (.int i) 0 p
 run:=λ σ K=>K (.int i) σ
 b_:=true
 star:=λ aa aa=>rfl
 ok:=λ aa F G ρ σ s Kv aa R h=>X.any<|wpAny_Constant_int (PE.here (R.toks _) VR.mA h)
 ab:=λ s=>af [(.ex (.int i),s)]
 cN:=λ aa s outs h σ gs=>D2.one h rfl gs λ aa k=>k
noncomputable def zg(k:Nat)(p:c7):SE P ct where
 bA:= .Constant .none k p
 run:=λ σ K=>K .none σ
 b_:=true
 star:=λ aa aa=>rfl
 ok:=λ aa F G ρ σ s Kv aa R h=>λ aa aa aa aa=>PE.here R VR.none_ h
 ab:=λ s=>af [(.ex .none,s)]
 cN:=λ aa s outs h σ gs=>D2.one h rfl gs λ aa k=>k
noncomputable def sNo(e:fW):SX P ct where
 bA:=e
 run:=λ aa aa=>False
 b_:=true
 ok:=λ aa F G ρ σ s Kv aa R h=>h.elim
noncomputable def Ac(ct:Ct)(i:Nat)(x:bM):aC:=(ct.aR[i]?==af x)&&!(x==bR "__debug__")&&!(x==bR "__classdict__")
theorem nb:∀{b:aC},(!b)=true->b=false
 |false=>λ aa=>rfl
 |true=>λ h=>ay h
theorem yS{ct:Ct}{i:Nat}{x:bM}(c:Ac ct i x=true):ct.aR[i]?=af x/\(x==bR "__debug__")=false/\(x==bR "__classdict__")=false:=
 ⟨be.mp (aG (aG c).1).1,nb (aG (aG c).1).2,nb (aG c).2⟩
def fy(l:ae AV):Nat->AV:=Wm id .undef l
theorem qu:∀(l:ae AV) (i:Nat) (v:AV),fy l i=v->v≠ .undef->l[i]?=af v
 |[],i,v,h,n=>bt h.symm n
 |u::_,0,v,h,_=>ah af h
 |_::r,i+1,v,h,n=>qu r i v h n
def ldK(v:AV)(σ:St)(K:AV->St->Prop):Prop:=match v with
 | .undef=>False
 |v=>K v σ
theorem Uk{v:AV}{σ:St}{K:AV->St->Prop}(h:ldK v σ K):v≠ .undef/\K v σ:=
 have n:v≠ .undef:=λ e=>by rw[e] at h; exact h
 ⟨n,by rcases v with _|_|_|_|_|_|_|_|_|_|_|_|_|_|_|_|_|_; exact(n rfl).elim; all_goals exact h⟩
theorem PC{F:Fd}{s:ar}{x:bM}{u:am}{M:ir}{Q:am->ar->Prop}(hk:F.env.scope.kind= .function)(a:At F.env s.heap x u)(h:Q u s)(hn:(x==bR "__classdict__")=false):
  aH M F.A (loadName F.env x) Q dq s:=by
 rcases a with⟨k,m,hm,e⟩|⟨k|k,c,hc,hv⟩
 ·exact wpAny_loadName_local hk k hm e h
 ·exact wpAny_loadName_cell hk k hc hv h
 ·exact wpAny_loadName_free hk k hc hv h hn
theorem Cx{F:Fd}{G:BM}{ρ:ae au}{σ:St}{s:ar}{M:ir}{i:Nat}{x:bM}{Kv:AV->St->Prop}(O:gH P ct F)(R:RF F ct.aR G ρ σ s)(c:Ac ct i x=true)(h:ldK (fy σ.loc i) σ Kv):
  aH M F.A (loadName F.env x) (PE F ct.aR G ρ Kv) dq s:=by
 have c:=yS c
 have h:=Uk h
 exact(R.loc i x _ c.1 (qu _ _ _ rfl h.1) h.1).elim λ u q=>PC O.kind q.2 (PE.here R q.1 h.2) c.2.2
def Q0(l:ae TV):Nat->aq TV:=Wm af none l
theorem tV:∀{ts:ae TV} {us:ae AV} {i:Nat} {t:TV},dD ts us->Q0 ts i=af t->∃u,us[i]?=af u/\fy us i=u/\GV t u
 |[],_,_,_=>λ aa=>cu
 |_::_,_,0,t=>λ g h=>g.uc (Q:=λ us=>∃u,us[0]?=af u/\fy us 0=u/\GV t u) λ u aa g aa=>⟨u,rfl,rfl,ak h▸g⟩
 |_::_,_,i+1,t=>λ g h=>g.uc (Q:=λ us=>∃u,us[i+1]?=af u/\fy us (i+1)=u/\GV t u) λ aa aa aa g=>tV (i:=i) g h
noncomputable def T8:TV->aC
 | .ex .undef=>true
 |_=>false
theorem Pp{t:TV}{v:AV}(h:T8 t=false)(g:GV t v):v≠ .undef:=by
 rintro rfl
 rcases t with w|_|_|_|_|_|_|_|_|_|_
 ·exact ay ((ah (λ w=>T8 (.ex w)) (show AV.undef=w from g)).trans h)
 ·exact aD g λ aa e=>AV.noConfusion e.1
 ·exact aD g λ aa e=>AV.noConfusion e
 ·exact aD g λ aa e=>AV.noConfusion e
 ·exact aD g λ aa e=>AV.noConfusion e.1
 ·exact aD g λ aa g=>g.elim λ aa e=>AV.noConfusion e.1
 ·exact aD g λ aa e=>AV.noConfusion e.1
 ·exact AV.noConfusion (show AV.undef= .lst [] from g)
 ·exact aD g λ aa g=>g.elim λ aa e=>AV.noConfusion e.1
 ·exact AV.noConfusion (eD g)
 ·exact aD g λ aa e=>AV.noConfusion e.1
def aLd(s:AS)(i:Nat):aq (ae (TV×AS)):=ob (Q0 s.loc i) λ t=>nB (!T8 t) (af [(t,s)])
theorem z6{v:AV}{σ:St}{K:AV->St->Prop}(h:v≠ .undef)(k:K v σ):ldK v σ K:=by
 rcases v with _|_|_|_|_|_|_|_|_|_|_|_|_|_|_|_|_|_
 ·exact bt rfl h
 all_goals exact k
theorem JW{s:AS}{i:Nat}{outs:ae (TV×AS)}{σ:St}(h:aLd s i=af outs)(gs:GS s σ):D2 (ldK (fy σ.loc i) σ) GV outs:=
 ob.u h λ t e h=>nB.u h λ q h=>(tV gs.loc e).elim λ u g=>D2.one h g.2.2 gs λ K k=>g.2.1.symm▸z6 (Pp (nb q) g.2.2) k
noncomputable def G0(ct:Ct)(i:Nat):bM:=ct.aR.getD i (bR "")
def eW(i:Nat)(p:c7):SE P ct where
 bA:= .Name (G0 ct i) p
 run:=λ σ K=>ldK (fy σ.loc i) σ K
 b_:=Ac ct i (G0 ct i)
 star:=λ aa aa=>rfl
 ok:=λ c F G ρ σ s Kv O R h=>X.any<|wpAny_Name (Cx O R c h) ((yS c).2.1)
 ab:=λ s=>aLd s i
 cN:=λ aa s outs h σ gs=>JW h gs
theorem RF.top{F:Fd}{G:BM}{ρ:ae au}{σ:St}{s:ar}(R:RF F ct.aR G ρ σ s)(O:gH P ct F):∃B p loose mg mb,P.K.In B/\nS p loose mg mb B/\∀a o,B.get? a=af o->s.heap.get? a=af o:=
 (P.base _ O.i7).imp λ aa=> .imp λ aa=> .imp λ aa=> .imp λ aa=> .imp λ aa=> .imp_right<| .imp_right λ h a o e=>R.rm.kg a o (R.B9 a o (h a o e))
theorem RF.AA{F:Fd}{G:BM}{ρ:ae au}{σ:St}{s:ar}{Q:Prop}(R:RF F ct.aR G ρ σ s)(O:gH P ct F)(k:∀B p loose mg mb,P.K.In B->nS p loose mg mb B->(∀a o,B.get? a=af o->s.heap.get? a=af o)->Q):Q:=
 (R.top O).elim λ B h=>h.elim λ p h=>h.elim λ l h=>h.elim λ mg h=>h.elim λ mb h=>k B p l mg mb h.1 h.2.1 h.2.2
theorem RF.K{F:Fd}{G:BM}{ρ:ae au}{σ:St}{s:ar}(R:RF F ct.aR G ρ σ s)(O:gH P ct F):P.K.In s.heap:=R.AA O λ aa aa aa aa aa h aa k=>h.keeps k
theorem RF.i7{F:Fd}{G:BM}{ρ:ae au}{σ:St}{s:ar}(R:RF F ct.aR G ρ σ s)(O:gH P ct F):P.Φ G:=P.mono _ _ R.B9 O.i7
noncomputable def B7(ct:Ct)(x:bM):aC:=(ct.names.lookup x==af .globalImplicit)&&!(x==bR "__debug__")
theorem B8{ct:Ct}{x:bM}(c:B7 ct x=true):ct.names.lookup x=af .globalImplicit/\(x==bR "__debug__")=false:=⟨be.mp (aG c).1,nb (aG c).2⟩
theorem PD{F:Fd}{G:BM}{ρ:ae au}{σ:St}{s:ar}{x:bM}{v:AV}{p:c7}{K:AV->St->Prop}(c:B7 ct x=true)(O:gH P ct F)(R:RF F ct.aR G ρ σ s)(e:P.gl.lookup x=af v)(h:K v σ):cK P.j (aE P.prog P.w) F.A (eval (.Name x p) F.env) (PE F ct.aR G ρ K) s:=
 have c:=B8 c
 (P.glob G x v ρ (R.i7 O) e).elim λ u q=>R.AA O λ aa aa aa aa aa h1 h2 h3=>
  X.any<|Name_function_global O.kind (by unfold Env.kindOf; rw[O.names]; exact c.1) (loadGlobal_global (by rw[O.glob]; exact h2.g.keeps h3) (mg_of h1 h2.g q.1) (PE.here R q.2 h)) c.2
def xGv(x:bM)(v:AV)(p:c7):SE P ct where
 bA:= .Name x p
 run:=λ σ K=>P.gl.lookup x=af v/\K v σ
 b_:=B7 ct x
 star:=λ aa aa=>rfl
 ok:=λ c F G ρ σ s Kv O R h=>PD c O R h.1 h.2
end
def binI(op:cF)(a b:Int)(k:Int->Prop):Prop:=match op with
 | .Add=>k (a+b)
 | .Sub=>k (a - b)
 | .Mult=>jD a b/\k (a * b)
 | .FloorDiv=>(b≠0/\b.natAbs < 1073741824)/\k (a.fdiv b)
 | .Mod=>b≠0/\k (a.fmod b)
 | .LShift=>(0<=b/\(Builtin.Int.intBits a:Int)+b<=2 ^ 27)/\k (a * 2 ^ b.toNat)
 | .RShift=>0<=b/\k (a.fdiv (2 ^ b.toNat))
 | .Pow=>(0<=b/\(Builtin.Int.intBits a:Int) * b<=2 ^ 27)/\k (a ^ b.toNat)
 |_=>False
noncomputable def isNone:AV->aq aC
 | .none=>af true
 | .undef=>none
 | .val _=>none
 | .any=>none
 |_=>af false
def Ei(op:jY)(i j:Int)(K:aC->Prop):Prop:=match op with
 | .Eq=>K (i==j)
 | .NotEq=>K (i !=j)
 | .Lt=>K (decide (i < j))
 | .LtE=>K (decide (i<=j))
 | .Gt=>K (decide (i > j))
 | .GtE=>K (decide (i>=j))
 |_=>False
def j5(a:AV)(K:Int->Prop):Prop:=match a with
 | .int i=>K i
 |_=>False
theorem j5.e{a:AV}{f:Int->Prop}{Q:AV->Prop}(h:j5 a f)(k:∀i,f i->Q (.int i)):Q a:=by
 rcases a with _|_|_|i|_|_|_|_|_|_|_|_|_|_|_|_|_|_
 all_goals first|exact h.elim|exact k i h
theorem j5.u{G:BM}{ρ:ae au}{a:AV}{v:am}{f:Int->Prop}{Q:am->Prop}(h:j5 a f)(va:VR G ρ a v)(k:∀i t,f i->Q (.int i t)):Q v:=
 h.e (Q:=λ a=>VR G ρ a v->Q v) (λ i h va=>va.iu λ t=>k i t h) va
def zB(op:cF)(a b:AV)(σ:St)(K:AV->St->Prop):Prop:=j5 a λ i=>j5 b λ j=>binI op i j λ r=>K (.int r) σ
def P3(o:aq aC)(K:aC->Prop):Prop:=match o with
 |some c=>K c
 |none=>False
theorem P3.u{o:aq aC}{K:aC->Prop}{Q:Prop}(h:P3 o K)(k:∀c,o=af c->K c->Q):Q:=by
 rcases o with _|c
 ·exact h.elim
 ·exact k c rfl h
def Kq(op:jY)(o:aq aC)(K:aC->Prop):Prop:=match op with
 | .Is=>P3 o K
 | .IsNot=>P3 o λ c=>K (!c)
 |_=>False
def xU(op:jY)(a b:AV)(K:aC->Prop):Prop:=match b with
 | .int j=>j5 a λ i=>Ei op i j K
 | .none=>Kq op (isNone a) K
 |_=>False
theorem xU.u{op:jY}{a b:AV}{K:aC->Prop}{Q:AV->Prop}(h:xU op a b K)(k1:Kq op (isNone a) K->Q .none)(k2:∀j,(j5 a λ i=>Ei op i j K)->Q (.int j)):Q b:=by
 rcases b with _|_|_|j|_|_|_|_|_|_|_|_|_|_|_|_|_|_
 all_goals first|exact h.elim|exact k1 h|exact k2 j h
def truth(a:AV)(K:aC->Prop):Prop:=match a with
 | .bool b=>K b
 | .int i=>K (i !=0)
 |_=>False
def vP(op:cF)(p q:Int×Int):aq (Int×Int):=match op with
 | .Add=>af (p.1+q.1,p.2+q.2)
 | .Sub=>af (p.1 - q.2,p.2 - q.1)
 | .Mult=>aY (decide (0<=p.1/\p.1=p.2/\p.1 < 1048576)) (af (p.1 * q.1,p.1 * q.2)) (nB (decide (0<=q.1/\q.1=q.2/\q.1 < 1048576)) (af (p.1 * q.1,p.2 * q.1)))
 | .FloorDiv=>nB (decide (0 < q.1/\q.1=q.2/\q.1 < 1073741824)) (af (p.1.fdiv q.1,p.2.fdiv q.1))
 | .Mod=>nB (decide (0 < q.1/\q.1=q.2)) (aY (decide (p.1=p.2)) (af (p.1.fmod q.1,p.1.fmod q.1)) (af (0,q.1 - 1)))
 | .RShift=>nB (decide (0<=q.1/\q.1=q.2)) (af (p.1.fdiv (2 ^ q.1.toNat),p.2.fdiv (2 ^ q.1.toNat)))
 | .Pow=>nB (decide (p.1=2/\p.2=2/\0<=q.1/\q.2 < 1000)) (af (2 ^ q.1.toNat,2 ^ q.2.toNat))
 |_=>none
theorem qt{a b c:Int}(h:a<=b)(hc:0 < c):a.fdiv c<=b.fdiv c:=by
 rw[i8 _ (eT hc),i8 _ (eT hc)]; exact Int.ediv_le_ediv hc h
theorem L7{a b:Int}(h0:0<=a)(h1:a < 1048576):jD a b:=FI (pK (aO (by decide) h0) (dk h1 (by decide)))
theorem yR{a b:Int}(h0:0<=b)(h1:b < 1048576):jD a b:=jZ (pK (aO (by decide) h0) (dk h1 (by decide)))
theorem pin{p:Int×Int}{i:Int}(d:p.1=p.2)(h0:p.1<=i)(h1:i<=p.2):i=p.1:=eY (aO h1 (dV d.symm)) h0
def Bk(op:cF)(r:Int×Int)(i j:Int):Prop:=∃x,r.1<=x/\x<=r.2/\∀k:Int->Prop,k x->binI op i j k
theorem Bk.of{op:cF}{r r':Int×Int}{i j:Int}(e:af r'=af r)(x:Int)(h0:r'.1<=x)(h1:x<=r'.2)(k:∀k:Int->Prop,k x->binI op i j k):Bk op r i j:=ak e▸⟨x,h0,h1,k⟩
theorem RG{α:Type}{p:Prop}[d:fA p]{x y:aq α}{r:α}{Q:Prop}(h:aY (decide p) x y=af r)(k1:p->x=af r->Q)(k2:y=af r->Q):Q:=by
 cases d with
 |isTrue e=>exact k1 e h
 |isFalse e=>exact k2 h
theorem nD{α:Type}{p:Prop}[d:fA p]{x:aq α}{r:α}{Q:Prop}(h:nB (decide p) x=af r)(k:p->x=af r->Q):Q:=nB.u h λ e=>k (a4 e)
theorem I4{b:Int}(h:0 < b)(k:b < 1073741824):b≠0/\b.natAbs < 1073741824:=⟨jh h,mQ.mp ((l4 (eT h)).symm▸k)⟩
theorem fmod_lo{i q:Int}(h:0 < q):0<=i.fmod q/\i.fmod q<=q - 1:=by
 rw[i9 _ (eT h)]; exact⟨mj _ (jh h),i_ (j7 i h)⟩
theorem y0{a b:Int}(h:a<=b):(2:Int) ^ a.toNat<=2 ^ b.toNat:=by
 have:=ry (n:=2) (by decide) (Int.toNat_le_toNat h)
 exact_mod_cast this
section
variable{p q r:Int×Int}{i j:Int}(i0:p.1<=i)(i1:i<=p.2)(j0:q.1<=j)(j1:j<=q.2)
include i0 i1 j0 j1
theorem N9(h:vP .Mult p q=af r):Bk .Mult r i j:=
 RG h (λ d h=> .of h (i * j) (pin d.2.1 i0 i1▸fB j0 (pin d.2.1 i0 i1▸d.1)) (pin d.2.1 i0 i1▸fB j1 (pin d.2.1 i0 i1▸d.1)) λ aa z=>⟨L7 (aO d.1 i0) ((pin d.2.1 i0 i1).symm▸d.2.2),z⟩)
  λ h=>nD h λ d h=> .of h (i * j) (pin d.2.1 j0 j1▸dW i0 (pin d.2.1 j0 j1▸d.1)) (pin d.2.1 j0 j1▸dW i1 (pin d.2.1 j0 j1▸d.1)) λ aa z=>⟨yR (aO d.1 j0) ((pin d.2.1 j0 j1).symm▸d.2.2),z⟩
theorem SR(h:vP .FloorDiv p q=af r):Bk .FloorDiv r i j:=
 nD h λ d h=>have e:=pin d.2.1 j0 j1; .of h (i.fdiv q.1) (qt i0 d.1) (qt i1 d.1) λ aa z=>e.symm▸⟨I4 d.1 d.2.2,z⟩
theorem N8(h:vP .Mod p q=af r):Bk .Mod r i j:=
 nD h λ d h=>have e:=pin d.2 j0 j1; RG h (λ c h=> .of h (i.fmod q.1) (pin c i0 i1▸dR _) (pin c i0 i1▸dR _) λ aa z=>e.symm▸⟨jh d.1,z⟩)
  λ h=> .of h (i.fmod q.1) (fmod_lo d.1).1 (fmod_lo d.1).2 λ aa z=>e.symm▸⟨jh d.1,z⟩
theorem Ob(h:vP .RShift p q=af r):Bk .RShift r i j:=
 nD h λ d h=>have e:=pin d.2 j0 j1; have pp:(0:Int) < 2 ^ q.1.toNat:=xi (by decide); .of h (i.fdiv (2 ^ q.1.toNat)) (qt i0 pp) (qt i1 pp) λ aa z=>e.symm▸⟨d.1,z⟩
theorem N_(h:vP .Pow p q=af r):Bk .Pow r i j:=
 nD h λ d h=>have e:i=2:=(pin (d.1.trans d.2.1.symm) i0 i1).trans d.1; .of h (2 ^ j.toNat) (y0 j0) (y0 j1) λ aa z=>
  have j2:=aO d.2.2.1 j0
  e.symm▸⟨⟨j2,aO (Int.mul_le_mul (pH.mpr (pK (k:=2) (by decide) (by decide))) (aO j1 (eT d.2.2.2)) j2 (by decide)) (by decide)⟩,z⟩
theorem JP{op:cF}(h:vP op p q=af r):Bk op r i j:=by
 rcases op
 all_goals first|exact cu h|exact N9 i0 i1 j0 j1 h|exact SR i0 i1 j0 j1 h|exact N8 i0 i1 j0 j1 h|exact Ob i0 i1 j0 j1 h|exact N_ i0 i1 j0 j1 h|exact .of h (i+j) (rp i0 j0) (rp i1 j1) λ aa z=>z|exact .of h (i - j) (Int.sub_le_sub i0 j1) (Int.sub_le_sub i1 j0) λ aa z=>z
end
def Rk(op:cF)(t u:TV)(s:AS):aq (ae (TV×AS)):=ob (l6 t) λ p=>ob (l6 u) λ q=>ob (vP op p q) λ r=>af [(R5 r,s)]
abbrev IJ(op:cF)(s:St)(outs:ae (TV×AS))(a b:AV):Prop:=∃i j,a= .int i/\b= .int j/\D2 (λ K=>binI op i j λ r=>K (.int r) s) GV outs
theorem Bt{op:cF}{t u:TV}{s:AS}{outs:ae (TV×AS)}{a b:AV}{σ:St}(h:Rk op t u s=af outs)(ga:GV t a)(gb:GV u b)(gs:GS s σ):IJ op σ outs a b:=
 ob.u h λ p e1 h=>ob.u h λ q e2 h=>ob.u h λ r e3 h=>l6.u (Q:=λ a=>IJ op σ outs a b) e1 ga λ i i0 i1=>l6.u (Q:=λ b=>IJ op σ outs (.int i) b) e2 gb λ j j0 j1=>
  (JP i0 i1 j0 j1 e3).elim λ x k=>⟨i,j,rfl,rfl,D2.one h (tL k.1 k.2.1) gs λ K=>k.2.2 λ r=>K (.int r) σ⟩
noncomputable def isAdd(op:cF):aq {u:e7 // op= .Add}:=match op with
 | .Add=>af ⟨(),rfl⟩
 |_=>none
noncomputable def Rh(op:cF)(t u:TV)(s:AS):aq (ae (TV×AS)):=ob (isAdd op) λ aa=>ob (tI t) λ aa=>ob (tI u) λ aa=>af [(.ai,s)]
theorem Br{op:cF}{t u:TV}{s:AS}{outs:ae (TV×AS)}{a b:AV}{σ:St}(h:Rh op t u s=af outs)(ga:GV t a)(gb:GV u b)(gs:GS s σ):D2 (zB op a b σ) GV outs:=
 ob.u h λ e aa h=>ob.u h λ p aa h=>ob.u h λ q aa h=>(p.2 _ ga).elim λ i ea=>(q.2 _ gb).elim λ j eb=>D2.one (a:= .int (i+j)) h ⟨_,rfl⟩ gs λ K z=>e.2.symm▸ea.symm▸eb.symm▸z
theorem sK{α:Type}{x y:aq α}{a:α}(h:oe x y=af a):x=af a\/y=af a:=by
 rcases x with _|b
 ·exact .inr h
 ·exact .inl h
theorem IJ.b{op:cF}{outs:ae (TV×AS)}{a b:AV}{σ:St}(h:IJ op σ outs a b):D2 (zB op a b σ) GV outs:=h.elim λ aa h=>h.elim λ aa h=>h.1▸h.2.1▸h.2.2
noncomputable def XC(op:cF):aq {u:e7 // op= .Sub}:=match op with
 | .Sub=>af ⟨(),rfl⟩
 |_=>none
noncomputable def tNr(t:TV):aq {c:Int×Int×Int // t= .nr c.1 c.2.1 c.2.2}:=match t with
 | .nr v l x=>af ⟨(v,l,x),rfl⟩
 |_=>none
noncomputable def Yc(op:cF)(t u:TV):aq {r:TV // ∀a b,GV t a->GV u b->∃i j,a= .int i/\b= .int j/\op= .Sub/\GV r (.int (i - j))}:=ob (XC op) λ e=>ob (tNr t) λ v=>ob (lg u) λ c=>af ⟨.nr (v.1.1 - c.1) (v.1.2.1 - c.1) (v.1.2.2 - c.1),λ a b ga gb=>
 have g:a= .int v.1.1/\v.1.2.1<=v.1.1/\v.1.1<=v.1.2.2:=(v.2▸ga:GV (.nr _ _ _) a)
 have k:b= .int c.1:=(c.2▸gb:GV (.ex _) b)
 ⟨v.1.1,c.1,g.1,k,e.2,rfl,HP g.2.1 _,HP g.2.2 _⟩⟩
noncomputable def Ri(op:cF)(t u:TV)(s:AS):aq (ae (TV×AS)):=ob (Yc op t u) λ r=>af [(r.1,s)]
theorem Bs{op:cF}{t u:TV}{s:AS}{outs:ae (TV×AS)}{a b:AV}{σ:St}(h:Ri op t u s=af outs)(ga:GV t a)(gb:GV u b)(gs:GS s σ):IJ op σ outs a b:=
 ob.u h λ r aa h=>(r.2 a b ga gb).elim λ i k=>k.elim λ j k=>⟨i,j,k.1,k.2.1,D2.one h k.2.2.2 gs λ K z=>k.2.2.1.symm▸z⟩
def JQ(op:cF)(t u:TV)(s:AS):aq (ae (TV×AS)):=oe (Ri op t u s) (oe (Rk op t u s) (Rh op t u s))
theorem Oy{op:cF}{t u:TV}{s:AS}{outs:ae (TV×AS)}{a b:AV}{σ:St}(h:JQ op t u s=af outs)(ga:GV t a)(gb:GV u b)(gs:GS s σ):D2 (zB op a b σ) GV outs:=
 (sK h).elim (λ h=>(Bs h ga gb gs).b) λ h=>(sK h).elim (λ h=>(Bt h ga gb gs).b) λ h=>Br h ga gb gs
noncomputable def Dq(t f:aC):ae aC:=aY t [true] (aY f [false] [true,false])
theorem HE{t f b:aC}(ht:t=true->b=true)(hf:f=true->b=false):b∈Dq t f:=by
 rcases t
 ·rcases f
  ·rcases b
   ·exact .tail _ (.head _)
   ·exact .head _
  ·exact show b∈[false] from(hf rfl).symm▸ .head _
 ·exact show b∈[true] from(ht rfl).symm▸ .head _
theorem Nh{a b c:Prop}[fA a][fA b][fA c](ht:a->c)(hf:b->¬c):decide c∈Dq (decide a) (decide b):=HE (λ e=>cy (ht (a4 e))) λ e=>dh (hf (a4 e))
def JS(op:jY)(p q:Int×Int):aq (ae aC):=match op with
 | .Eq=>af (Dq (decide (p.1=p.2/\q.1=q.2/\p.1=q.1)) (decide (p.2 < q.1\/q.2 < p.1)))
 | .NotEq=>af (Dq (decide (p.2 < q.1\/q.2 < p.1)) (decide (p.1=p.2/\q.1=q.2/\p.1=q.1)))
 | .Lt=>af (Dq (decide (p.2 < q.1)) (decide (q.2<=p.1)))
 | .LtE=>af (Dq (decide (p.2<=q.1)) (decide (q.2 < p.1)))
 | .Gt=>af (Dq (decide (q.2 < p.1)) (decide (p.2<=q.1)))
 | .GtE=>af (Dq (decide (q.2<=p.1)) (decide (p.2 < q.1)))
 |_=>none
def CmI(op:jY)(i j:Int)(l:ae aC):Prop:=∃b,b∈l/\∀K:aC->Prop,K b->Ei op i j K
theorem CmI.of{op:jY}{i j:Int}{l m:ae aC}{b:aC}(e:af m=af l)(h:b∈m)(k:∀K:aC->Prop,K b->Ei op i j K):CmI op i j l:=⟨b,ak e▸h,k⟩
theorem Bu{op:jY}{p q:Int×Int}{l:ae aC}{i j:Int}(h:JS op p q=af l)(i0:p.1<=i)(i1:i<=p.2)(j0:q.1<=j)(j1:j<=q.2):CmI op i j l:=
 have lt1:p.2 < q.1->i < j:=λ e=>f9 i1 (j8 e j0)
 have lt2:q.2 < p.1->j < i:=λ e=>f9 j1 (j8 e i0)
 have le1:p.2<=q.1->i<=j:=λ e=>aO i1 (aO e j0)
 have XV:q.2<=p.1->j<=i:=λ e=>aO j1 (aO e i0)
 have eq1:(p.1=p.2/\q.1=q.2/\p.1=q.1)->i=j:=λ e=>(pin e.1 i0 i1).trans (e.2.2.trans (pin e.2.1 j0 j1).symm)
 have ne1:(p.2 < q.1\/q.2 < p.1)->i≠j:=λ e=>e.elim (λ e=>Int.ne_of_lt (lt1 e)) λ e=>jh (lt2 e)
 match op,h with
 | .Eq,h=> .of h (Nh eq1 ne1) λ aa z=>z
 | .NotEq,h=> .of h (HE (λ e=>rI.mpr (ne1 (a4 e))) λ e=>bne_eq_false_iff_eq.mpr (eq1 (a4 e))) λ aa z=>z
 | .Lt,h=> .of h (Nh lt1 λ e=>gV.mpr (XV e)) λ aa z=>z
 | .LtE,h=> .of h (Nh le1 λ e=>Int.not_le.mpr (lt2 e)) λ aa z=>z
 | .Gt,h=> .of h (Nh lt2 λ e=>gV.mpr (le1 e)) λ aa z=>z
 | .GtE,h=> .of h (Nh XV λ e=>Int.not_le.mpr (lt1 e)) λ aa z=>z
 | .Is,h=>cu h
 | .IsNot,h=>cu h
 | .In,h=>cu h
 | .NotIn,h=>cu h
def Ax:TV->aq aC
 | .ex v=>isNone v
 |_=>af false
theorem Fp{t:TV}{v:AV}{c:aC}(e:Ax t=af c)(g:GV t v):isNone v=af c:=by
 have o:∀{x},v=x->isNone x=af c->isNone v=af c:=λ h k=>h▸k
 rcases t with w|_|_|_|_|_|_|_|_|_|_
 ·exact o g e
 ·exact aD g λ aa g=>o g.1 e
 ·exact aD g λ aa g=>o g e
 ·exact aD g λ aa g=>o g e
 ·exact aD g λ aa g=>o g.1 e
 ·exact aD g λ aa g=>g.elim λ aa g=>o g.1 e
 ·exact aD g λ aa g=>o g.1 e
 ·exact o g e
 ·exact aD g λ aa g=>g.elim λ aa g=>o g.1 e
 ·exact o (eD g) e
 ·exact aD g λ aa g=>o g.1 e
def isT(op:jY)(t:TV):aq (ae aC):=match op with
 | .Is=>ob (Ax t) λ c=>af [c]
 | .IsNot=>ob (Ax t) λ c=>af [!c]
 |_=>none
def JT(op:jY)(t u:TV):aq (ae aC):=oe (ob (Ss u) λ aa=>isT op t) (ob (l6 t) λ p=>ob (l6 u) λ q=>JS op p q)
abbrev NQ(op:jY)(l:ae aC)(a b:AV):Prop:=∃c,c∈l/\∀K:aC->Prop,K c->xU op a b K
theorem T7{op:jY}{t:TV}{l:ae aC}{a:AV}(h:isT op t=af l)(ga:GV t a):NQ op l a .none:=by
 have o:∀{c},isNone a=af c->∀{K:aC->Prop},K c->P3 (isNone a) K:=λ e aa z=>e▸z
 rcases op
 all_goals first|exact cu h|exact ob.u h λ c e h=>⟨_,ak h▸ .head _,λ K z=>o (Fp e ga) z⟩
theorem Bv{op:jY}{t u:TV}{l:ae aC}{a b:AV}(h:JT op t u=af l)(ga:GV t a)(gb:GV u b):NQ op l a b:=
 (sK h).elim (λ h=>ob.u h λ e aa h=>(show b= .none from(e.2▸gb:GV (.ex .none) b))▸T7 h ga) λ h=>ob.u h λ p e1 h=>ob.u h λ q e2 h=>
  l6.u (Q:=λ a=>NQ op l a b) e1 ga λ i i0 i1=>l6.u (Q:=λ b=>NQ op l (.int i) b) e2 gb λ j j0 j1=>Bu h i0 i1 j0 j1
noncomputable def Zd(t:TV):aq (ae aC):=match t with
 | .ex (.bool b)=>af [b]
 | .tb=>af [true,false]
 |_=>none
def JY(t:TV):aq (ae aC):=oe (Zd t) (ob (l6 t) λ p=>JS .NotEq p (0,0))
abbrev SQ(l:ae aC)(a:AV):Prop:=∃c,c∈l/\∀K:aC->Prop,K c->truth a K
theorem QU{t:TV}{l:ae aC}{a:AV}(h:Zd t=af l)(ga:GV t a):SQ l a:=by
 rcases t with w|_|_|_|_|_|_|_|_|_|_
 ·refine(show a=w from ga)▸?_
  clear ga
  rcases w with _|_|b|_|_|_|_|_|_|_|_|_|_|_|_|_|_|_
  all_goals first|exact cu h|exact⟨b,ak h▸ .head _,λ K z=>z⟩
 all_goals first|exact cu h|exact aD ga λ b e=>⟨b,ak h▸(by rcases b; exact .tail _ (.head _); exact .head _),λ K z=>e▸z⟩
theorem H5{t:TV}{l:ae aC}{a:AV}(h:JY t=af l)(ga:GV t a):SQ l a:=
 (sK h).elim (QU · ga) λ h=>ob.u h λ p e h=>l6.u (Q:=λ a=>SQ l a) e ga λ i i0 i1=>Bu (j:=0) h i0 i1 (dR _) (dR _)
noncomputable def bsO(l:ae aC)(s:AS):ae (aC×AS):=l.map λ b=>(b,s)
theorem D2.bools{l:ae aC}{c:aC}{s:AS}{σ:St}(m:c∈l)(gs:GS s σ):D2 (λ K=>K c σ) Eq (bsO l s):=⟨c,σ,⟨(c,s),dM.mpr ⟨c,m,rfl⟩,rfl,gs⟩,λ aa k=>k⟩
noncomputable def tbs(l:ae aC)(s:AS):ae (TV×AS):=l.map λ b=>(.ex (.bool b),s)
theorem D2.Vh{l:ae aC}{c:aC}{s:AS}{σ:St}(m:c∈l)(gs:GS s σ):D2 (λ K=>K (AV.bool c) σ) GV (tbs l s):=⟨_,σ,⟨(.ex (.bool c),s),dM.mpr ⟨c,m,rfl⟩,rfl,gs⟩,λ aa k=>k⟩
section
variable{prog:aK}{w:bw}{A:bn}{F:Fd}{aR:ae bM}{G:BM}{ρ:ae au}{σ:St}{s:ar}{Kv:AV->St->Prop}
theorem PE.toks{av:AV}{v:am}{t:Nat}(R:RF F aR G ρ σ s)(h:VR G ρ av v)(k:Kv av σ):PE F aR G ρ Kv v {s with toks:=t}:=PE.here (R.toks t) h k
theorem D8{op:cF}{i j:Int}{t u:j_}(R:RF F aR G ρ σ s)(h:binI op i j λ r=>Kv (.int r) σ):
  aH (aE prog w) A (kM op (.int i t) (.int j u)) (PE F aR G ρ Kv) dq s:=by
 have o:∀{r t n},Kv (.int r) σ->PE F aR G ρ Kv (.int r t) {s with toks:=n}:=λ h=>PE.toks R VR.mA h
 rcases op
 case Add=>exact wpAny_add_int (o h)
 case Sub=>exact sub_int' (o h)
 case Mult=>exact mul_int (o h.2) h.1
 case FloorDiv=>exact floordiv_int h.1.1 (o h.2) (Or.inl (oA h.1.2))
 case Mod=>exact mod_int' h.1 (o h.2)
 case LShift=>exact lshift_int h.1.1 h.1.2 (o h.2)
 case RShift=>exact rshift_int h.1 (o h.2)
 case Pow=>exact pow_int h.1.1 h.1.2 (o h.2)
 all_goals exact h.elim
theorem EJ{op:cF}{i j:Int}{t u:j_}(R:RF F aR G ρ σ s)(h:binI op i j λ r=>Kv (.int r) σ):
  aH (aE prog w) A (ms op (.int i t) (.int j u)) (PE F aR G ρ Kv) dq s:=by
 have o:∀{r t n},Kv (.int r) σ->PE F aR G ρ Kv (.int r t) {s with toks:=n}:=λ h=>PE.toks R VR.mA h
 rcases op
 case Add=>exact wpAny_iadd_int (o h)
 case Sub=>exact isub_int (o h)
 case Mult=>exact imul_int (o h.2) h.1
 case FloorDiv=>exact ifloordiv_int h.1.1 (o h.2) (Or.inl (oA h.1.2))
 case Mod=>exact imod_int h.1 (o h.2)
 case LShift=>exact ilshift_int h.1.1 h.1.2 (o h.2)
 case RShift=>exact irshift_int h.1 (o h.2)
 case Pow=>exact ipow_int h.1.1 h.1.2 (o h.2)
 all_goals exact h.elim
theorem rV{op:cF}{a b:AV}{u v:am}(R:RF F aR G ρ σ s)(va:VR G ρ a u)(vb:VR G ρ b v)(h:zB op a b σ Kv):
  aH (aE prog w) A (ms op u v) (PE F aR G ρ Kv) dq s:=
 h.u (Q:=λ u=>aH (aE prog w) A (ms op u v) (PE F aR G ρ Kv) dq s) va λ i t h=>h.u (Q:=λ v=>aH (aE prog w) A (ms op (.int i t) v) (PE F aR G ρ Kv) dq s) vb λ aa aa=>EJ R
theorem Ej{op:jY}{i j:Int}{t u:j_}{Q:am->ar->Prop}(h:Ei op i j λ c=>Q (.bool c) s):
  aH (aE prog w) A (dw op (.int i t) (.int j u)) Q dq s:=by
 rcases op
 case Eq=>exact PyProof.Rows.eq_int h
 case NotEq=>exact PyProof.Rows.ne_int h
 case Lt=>exact PyProof.Rows.lt_int h
 case LtE=>exact PyProof.Rows.le_int h
 case Gt=>exact PyProof.Rows.gt_int h
 case GtE=>exact PyProof.Rows.ge_int h
 all_goals exact h.elim
theorem yN{a:AV}{v:am}{c:aC}(h:VR G ρ a v)(e:isNone a=af c):(v== .none)=c:=by
 have r:∀{x},v=x->(x== .none)=false->isNone a=af false->(v== .none)=c:=λ h k z=>h▸k.trans (ak (z.symm.trans e))
 rcases a with _|_|_|_|_|_|_|_|_|_|_|_|_|_|_|_|_|_
 case none=>exact(ah (·==c8) (show v= .none from h)).trans (ak e)
 case bool=>exact r h rfl rfl
 case int=>exact aD h λ aa h=>r h rfl rfl
 case kq=>exact aD h λ aa h=>r h rfl rfl
 all_goals first|exact cu e|exact(VR.isRef h rfl).elim λ aa h=>r h rfl rfl
theorem El{op:jY}{a:AV}{u:am}{Q:am->ar->Prop}(va:VR G ρ a u)(h:Kq op (isNone a) λ c=>Q (.bool c) s):aH (aE prog w) A (dw op u .none) Q dq s:=by
 rcases op
 case Is=>exact P3.u h λ c e h=>is_none (yN va e▸h)
 case IsNot=>exact P3.u h λ c e h=>isNot_none (yN va e▸h)
 all_goals exact h.elim
theorem v9{op:jY}{a b:AV}{u v:am}{Q:am->ar->Prop}(va:VR G ρ a u)(vb:VR G ρ b v)(h:xU op a b λ c=>Q (.bool c) s):
  aH (aE prog w) A (dw op u v) Q dq s:=
 h.u (Q:=λ b=>VR G ρ b v->aH (aE prog w) A (dw op u v) Q dq s) (λ h e=>(show v= .none from e)▸El va h)
  (λ j h vb=>h.u (Q:=λ u=>aH (aE prog w) A (dw op u v) Q dq s) va λ i t h=>vb.iu (Q:=λ v=>aH (aE prog w) A (dw op (.int i t) v) Q dq s) λ aa=>Ej h) vb
theorem Dp{a:AV}{v:am}{Q:aC->ar->Prop}(va:VR G ρ a v)(h:truth a λ c=>Q c s):aH (aE prog w) A (truthy v) Q dq s:=by
 rcases a with _|_|_|_|_|_|_|_|_|_|_|_|_|_|_|_|_|_
 case bool=>exact va.Ry (Q:=λ v=>aH (aE prog w) A (truthy v) Q dq s) (pG h)
 case int=>exact va.iu (Q:=λ v=>aH (aE prog w) A (truthy v) Q dq s) λ aa=>truthy_int h
 all_goals exact h.elim
end
theorem Ic{op:jY}{i j:Int}{k k':aC->Prop}(h:Ei op i j k)(m:∀c,k c->k' c):Ei op i j k':=by
 rcases op
 all_goals first|exact m _ h|exact h.elim
theorem Ig{op:jY}{o:aq aC}{k k':aC->Prop}(h:Kq op o k)(m:∀c,k c->k' c):Kq op o k':=by
 rcases op
 case Is=>exact P3.u h λ c e h=>e▸m _ h
 case IsNot=>exact P3.u h λ c e h=>e▸m _ h
 all_goals exact h.elim
theorem yw{op:jY}{a b:AV}{k k':aC->Prop}(h:xU op a b k)(m:∀c,k c->k' c):xU op a b k':=
 h.u (Q:=λ b=>xU op a b k') (λ h=>Ig h m) λ j h=>h.e (Q:=λ a=>xU op a (.int j) k') λ i h=>Ic h m
theorem Fv{a:AV}{k k':aC->Prop}(h:truth a k)(m:∀c,k c->k' c):truth a k':=by
 rcases a with _|_|_|_|_|_|_|_|_|_|_|_|_|_|_|_|_|_
 all_goals first|exact h.elim|exact m _ h
section
variable{P:cC}{ct:Ct}
abbrev WP(P:cC)(A:bn){α:Type}(t:ie α)(Q:α->ar->Prop)(s:ar):Prop:=cK P.j (aE P.prog P.w) A t Q s
theorem SE.then(l r:SE P ct)(cl:l.b_=true)(cr:r.b_=true){F:Fd}{G:BM}{ρ:ae au}{σ:St}{s:ar}(O:gH P ct F)(R:RF F ct.aR G ρ σ s)
  {K:AV->AV->St->Prop} (h:l.run σ λ a aI=>r.run aI λ b aU=>K a b aU) {Q:am->am->ar->Prop}
  (hq:∀G' ρ' a b u v bZ s',dC G G'->Ext ρ ρ'->RF F ct.aR G' ρ' bZ s'->VR G' ρ' a u->VR G' ρ' b v->K a b bZ->Q u v s'):
  WP P F.A (eval l.bA F.env) (λ u s₁=>WP P F.A (eval r.bA F.env) (λ v bp=>Q u v bp) s₁) s:=by
 exact X.mono (l.ok cl F G ρ σ s _ O R h) λ u s₁ z=>z.u λ dU c6 a aI fG fb dQ va bH=>X.mono (r.ok cr F dU c6 aI s₁ _ O dQ bH) λ v bp z=>z.u λ jn gZ b aU jd jr gJ vb cU=>
  hq jn gZ a b u v aU bp (fG.trans jd) (fb.trans jr) gJ (va.up jd jr) vb cU
theorem Cu{A:bn}{F:Fd}{aR:ae bM}{G G':BM}{ρ ρ':ae au}{K:AV->St->Prop}{t:ie am}{s:ar}(g:dC G G')(x:Ext ρ ρ')(h:aH (aE P.prog P.w) A t (PE F aR G' ρ' K) dq s):WP P A t (PE F aR G ρ K) s:=
 X.any (cZ h (λ aa aa z=>PE.up g x z) λ aa aa z=>z)
noncomputable def JZ{β:Type}(e:AS->aq (ae (TV×AS)))(f:TV->AS->aq (ae (β×AS))):AS->aq (ae (β×AS)):=λ s=>bO (e s) f
theorem nA{α β:Type}{g:β->α->Prop}{e:SE P ct}{f:TV->AS->aq (ae (β×AS))}{C:AV->St->(α->St->Prop)->Prop}(fo:lT P)(k:∀t s outs a σ,f t s=af outs->GV t a->GS s σ->D2 (C a σ) g outs):
  Ab (JZ e.ab f) (λ σ K=>e.run σ λ a aI=>C a aI K) g:=λ s outs h σ gs=>(e.cN fo).bind h gs λ t s' l h' a bZ ga p6=>k t s' l a bZ h' ga p6
noncomputable def Rq{β:Type}(l r:AS->aq (ae (TV×AS)))(f:TV->TV->AS->aq (ae (β×AS))):AS->aq (ae (β×AS)):=λ s=>bO (l s) λ a s₁=>bO (r s₁) λ b bp=>f a b bp
theorem rK{α β:Type}{g:β->α->Prop}{l r:SE P ct}{f:TV->TV->AS->aq (ae (β×AS))}{C:AV->AV->St->(α->St->Prop)->Prop}(fo:lT P)(k:∀t u s outs a b σ,f t u s=af outs->GV t a->GV u b->GS s σ->D2 (C a b σ) g outs):
  Ab (Rq l.ab r.ab f) (λ σ K=>l.run σ λ a aI=>r.run aI λ b aU=>C a b aU K) g:=
 λ s outs h σ gs=>(l.cN fo).bind h gs λ t s' l' h' a bZ ga p6=>(r.cN fo).bind h' p6 λ u bp l₂ cU b aU gb nZ=>k t u bp l₂ a b aU cU ga gb nZ
noncomputable def Ak:jY->aC
 | .In=>false
 | .NotIn=>false
 |_=>true
theorem yh{op:jY}{e:aB}(h:Ak op=true):pJ op e=false:=by
 have h1:((op== .In)||(op== .NotIn))=false:=by
  rcases op
  all_goals first|rfl|exact ay h
 rcases e
 case Set=>unfold pJ; dsimp only; rw[h1,mX,Bool.false_and]
 all_goals rfl
def acR(l:SE P ct)(op:jY)(r:SE P ct)(p:c7):SE P ct where
 bA:= .Compare l.bA [op] [r.bA] p
 run:=λ σ K=>l.run σ λ a aI=>r.run aI λ b aU=>xU op a b λ c=>K (.bool c) aU
 b_:=Ak op&&(l.b_&&r.b_)
 star:=λ aa aa=>rfl
 ok:=λ c F G ρ σ s Kv O R h=>X.Bl (yh (aG c).1) (SE.then l r (aG (aG c).2).1 (aG (aG c).2).2 O R h λ G' ρ' a b u v bZ s' g x R' va vb k=>
  X.any (v9 va vb (yw k λ c k=>PE.up g x (PE.here R' VR.Ki k))))
 ab:=Rq l.ab r.ab λ t u s=>ob (JT op t u) λ bs=>af (tbs bs s)
 cN:=λ fo=>rK fo λ t u s outs a b σ h ga gb gs=>ob.u h λ bs e h=>(Bv e ga gb).elim λ c k=>ak h▸(D2.Vh k.1 gs).eq λ K z=>k.2 _ z
def QO(l:SE P ct)(op:jY)(r:SE P ct)(p:c7):ST P ct where
 bA:= .Compare l.bA [op] [r.bA] p
 run:=λ σ K=>l.run σ λ a aI=>r.run aI λ b aU=>xU op a b λ c=>K c aU
 b_:=Ak op&&(l.b_&&r.b_)
 ok:=λ c F G ρ σ s Kv O R h=>X.isTrue_Compare1 (yh (aG c).1) (SE.then l r (aG (aG c).2).1 (aG (aG c).2).2 O R h λ G' ρ' a b u v bZ s' g x R' va vb k=>
  X.any (v9 va vb (yw k λ c k=>X.any (pG ⟨G',ρ',bZ,g,x,R',k⟩))))
 ab:=Rq l.ab r.ab λ t u s=>ob (JT op t u) λ bs=>af (bsO bs s)
 cN:=λ fo=>rK fo λ t u s outs a b σ h ga gb gs=>ob.u h λ bs e h=>(Bv e ga gb).elim λ c k=>ak h▸(D2.bools k.1 gs).eq λ K z=>k.2 _ z
def Y_(e:SE P ct):ST P ct where
 bA:=e.bA
 run:=λ σ K=>e.run σ λ a aI=>truth a λ c=>K c aI
 b_:=vg 4 e.bA&&e.b_
 ok:=λ c F G ρ σ s Kv O R h=>X.zY (Ze (aG c).1) (X.mono (e.ok (aG c).2 F G ρ σ s _ O R h) λ v s₁ z=>z.u λ G' ρ' a bZ g x R' va k=>X.any (Dp va (Fv k λ c k=>⟨G',ρ',bZ,g,x,R',k⟩)))
 ab:=JZ e.ab λ t s=>ob (JY t) λ bs=>af (bsO bs s)
 cN:=λ fo=>nA fo λ t s outs a σ h ga gs=>ob.u h λ bs e h=>(H5 e ga).elim λ c k=>ak h▸(D2.bools k.1 gs).eq λ K z=>k.2 _ z
noncomputable def acx(e:ST P ct)(p:c7):ST P ct where
 bA:= .UnaryOp .Not e.bA p
 run:=λ σ K=>e.run σ λ c aI=>K (!c) aI
 b_:=e.b_
 ok:=λ c F G ρ σ s Kv O R h=>X.EK (X.mono (e.ok c F G ρ σ s _ O R h) λ b s₁ z=>z.u λ G' ρ' bZ g x R' k=>⟨G',ρ',bZ,g,x,R',k⟩)
 ab:=λ s=>bO (e.ab s) λ b s=>af [(!b,s)]
 cN:=λ fo s outs h σ gs=>(e.cN fo).bind h gs λ b s' l h' a bZ ga p6=>D2.one h' (ah not ga) p6 λ aa k=>k
noncomputable def xIf(t:ST P ct)(a b:SE P ct)(p:c7):SE P ct where
 bA:= .IfExp t.bA a.bA b.bA p
 run:=λ σ K=>t.run σ λ c aI=>aY c (a.run aI K) (b.run aI K)
 b_:=t.b_&&(a.b_&&b.b_)
 star:=λ aa aa=>rfl
 ok:=λ c F G ρ σ s Kv O R h=>X.IfExp (X.mono (t.ok (aG c).1 F G ρ σ s _ O R h) λ v s₁ z=>z.u λ G' ρ' bZ g x R' k=>match v,k with
  |false,k=>X.mono (b.ok (aG (aG c).2).2 F G' ρ' bZ s₁ _ O R' k) λ aa aa=>PE.up g x
  |true,k=>X.mono (a.ok (aG (aG c).2).1 F G' ρ' bZ s₁ _ O R' k) λ aa aa=>PE.up g x)
 ab:=λ s=>bO (t.ab s) λ c s=>aY c (a.ab s) (b.ab s)
 cN:=λ fo s outs h σ gs=>(t.cN fo).bind h gs λ c s' l h' c' bZ ga p6=>ga▸match c,h' with
  |false,h'=>b.cN fo s' l h' bZ p6
  |true,h'=>a.cN fo s' l h' bZ p6
def X8(a:AV)(K:AV->Prop):Prop:=j5 a λ i=>K (.int (-i))
def acT(e:SE P ct)(p:c7):SE P ct where
 bA:= .UnaryOp .USub e.bA p
 run:=λ σ K=>e.run σ λ a aI=>X8 a λ v=>K v aI
 b_:=e.b_
 star:=λ aa aa=>rfl
 ok:=λ c F G ρ σ s Kv O R h=>X.Us (X.mono (e.ok c F G ρ σ s _ O R h) λ v s₁ z=>z.u λ G' ρ' a bZ g x R' va k=>j5.u (Q:=λ v=>WP P F.A (unaryOp .USub v) (PE F ct.aR G ρ Kv) s₁) k va λ i t k=>X.any (neg_int (PE.up g x (PE.toks R' VR.mA k))))
 ab:=JZ e.ab λ t s=>ob (l6 t) λ q=>af [(R5 (-q.2,-q.1),s)]
 cN:=λ fo=>nA fo λ t s outs a σ h ga gs=>ob.u h λ q e h=>l6.u (Q:=λ a=>D2 (λ K=>X8 a λ v=>K v σ) GV outs) e ga λ i i0 i1=>D2.one h (tL (m_ i1) (m_ i0)) gs λ K z=>z
structure SL(P:cC)(ct:Ct) where
 bA:ae aB
 run:St->(ae AV->St->Prop)->Prop
 b_:aC
 plain:∀env p,(backTo p (fw bA env)).any (·.1)=false
 ok:b_=true->∀F G ρ σ s Kv p,gH P ct F->RF F ct.aR G ρ σ s->run σ Kv->WP P F.A (spliced (backTo p (fw bA F.env))) (PL F ct.aR G ρ Kv) s
 ab:AS->aq (ae (ae TV×AS)):=λ aa=>none
 cN:lT P->Ab ab run dD:=by nofun
noncomputable def qU:SL P ct where
 bA:=[]
 run:=λ σ K=>K [] σ
 b_:=true
 plain:=λ aa aa=>rfl
 ok:=λ aa F G ρ σ s Kv p O R h=>X.any (Bh ⟨G,ρ,[],σ,dC.refl _,Ext.refl _,R,bI.nil,h⟩)
 ab:=λ s=>af [([],s)]
 cN:=λ aa s outs h σ gs=>D2.one h rfl gs λ aa k=>k
noncomputable def iR(e:SE P ct)(r:SL P ct):SL P ct where
 bA:=e.bA::r.bA
 run:=λ σ K=>e.run σ λ v aI=>r.run aI λ vs aU=>K (v::vs) aU
 b_:=e.b_&&r.b_
 plain:=λ env p=>by rw[e.star]; show(false||(backTo p (fw r.bA env)).any (·.1))=false; rw[r.plain]; rfl
 ok:=λ c F G ρ σ s Kv p O R h=>X.k9 (e.star _ _) (X.mono (e.ok (aG c).1 F G ρ σ s _ O R h) λ v s₁ z=>z.u λ dU c6 a aI fG fb dQ va bH=>X.mono (r.ok (aG c).2 F dU c6 aI s₁ _ p O dQ bH) λ vs bp z=>z.u λ jn gZ b aU jd jr gJ vb cU=>
  ⟨jn,gZ,a::b,aU,fG.trans jd,fb.trans jr,gJ,bI.cons (va.up jd jr) vb,cU⟩)
 ab:=λ s=>bO (e.ab s) λ v s₁=>bO (r.ab s₁) λ vs bp=>af [(v::vs,bp)]
 cN:=λ fo s outs h σ gs=>(e.cN fo).bind h gs λ t s' l h' a bZ ga p6=>(r.cN fo).bind h' p6 λ u bp l₂ cU b aU gb nZ=>D2.one cU (dD.cons ga gb) nZ λ aa k=>k
noncomputable def tO(l:ae AV):aC:=bB l.length 9
theorem tP{l:ae AV}(h:tO l=true):l.length<=f6:=aF (aP h) (by decide)
noncomputable def cJ(b:aC)(k:Prop):Prop:=aY b k False
theorem cJ.u{b:aC}{k Q:Prop}(h:cJ b k)(f:b=true->k->Q):Q:=by
 rcases b
 ·exact h.elim
 ·exact f rfl h
theorem cJ.i{b:aC}{k:Prop}(e:b=true)(h:k):cJ b k:=e▸h
theorem RF.K0{F:Fd}{aR:ae bM}{G:BM}{ρ:ae au}{σ:St}{s:ar}(_:RF F aR G ρ σ s):s.heap.get? s.heap.objs.size=none:=none_of λ aa e=>fj _ (b8 e)
theorem RF.Dk{F:Fd}{aR:ae bM}{G:BM}{ρ:ae au}{σ:St}{s:ar}{a:au}(R:RF F aR G ρ σ s):(ρ++[a])[σ.mem.length]?=af a:=R.rm.len▸xy
noncomputable def Sd(vs:ae TV)(s:AS):aq (ae (TV×AS)):=match vs with
 |[a,b]=>af [(.tp a b,s)]
 |_=>none
theorem Mo{sh:ae AV->aC}{vs:ae TV}{s:AS}{l:ae (TV×AS)}{us:ae AV}{σ:St}(q:∀a b,sh [a,b]=true)(ga:dD vs us)(gs:GS s σ)(h:Sd vs s=af l):D2 (λ K=>cJ (sh us) (K (.tup us) σ)) GV l:=by
 rcases vs with _|⟨a,_|⟨b,_|_⟩⟩
 case cons.cons.nil=>exact ga.u2 (Q:=λ us=>D2 (λ K=>cJ (sh us) (K (.tup us) σ)) GV l) λ x y g1 g2=>D2.one h ⟨x,y,rfl,g1,g2⟩ gs λ K z=>cJ.i (q x y) z
 all_goals exact cu h
theorem Di{vs:ae TV}{us:ae AV}(g:dD vs us)(h:bB vs.length 9=true):tO us=true:=by unfold tO; rw[g.len]; exact h
def VC(es:SL P ct)(k:Nat)(p:c7):SE P ct where
 bA:= .Tuple es.bA k p
 run:=λ σ K=>es.run σ λ vs aI=>cJ (tO vs) (K (.tup vs) aI)
 b_:=es.b_
 star:=λ aa aa=>rfl
 ok:=λ c F G ρ σ s Kv O R h=>X.L8 (X.mono (es.ok c F G ρ σ s _ _ O R h) λ vs s₁ z=>by
  exact z.u λ G' ρ' as bZ g x R' va k=>k.u λ hs k=>⟨(bI.length va).symm▸tP hs,
   have q:=R'.freeze (s':={s₁ with heap:=s₁.heap.push {cls:= .type "tuple",data:= .seq vs.toArray}}) R'.K0 (aN _ rfl) (λ b o e=>aA _ e) ⟨rfl,rfl,rfl⟩
   PE.up (g.trans q.2) x (PE.here q.1 (VR.Zg (BM.zf _ _ _) ⟨rfl,_,rfl⟩ (bI.up q.2 (Ext.refl _) as va)) k)⟩)
 ab:=λ s=>bO (es.ab s) λ vs s=>oe (Sd vs s) (ob (toAVs vs) λ us=>nB (bB vs.length 9) (af [(.ex (.tup us.1),s)]))
 cN:=λ fo s outs h σ gs=>(es.cN fo).bind h gs λ vs s' l h us bZ ga p6=>(sK h).elim (Mo (λ aa aa=>rfl) ga p6) λ h=>ob.u h λ rl aa h=>nB.u h λ hl h=>
  D2.one h (ah AV.tup (rl.2 _ ga)) p6 λ K z=>cJ.i (Di ga hl) z
def acS(es:SL P ct)(p:c7):SE P ct where
 bA:= .List es.bA p
 run:=λ σ K=>es.run σ λ vs aI=>cJ (tO vs) (K (.own aI.mem.length) ⟨aI.loc,aI.mem++[.lst vs]⟩)
 b_:=es.b_
 star:=λ aa aa=>rfl
 ok:=λ c F G ρ σ s Kv O R h=>X.nList (X.mono (es.ok c F G ρ σ s _ _ O R h) λ vs s₁ z=>by
  exact z.u λ G' ρ' as bZ g x R' va k=>k.u λ hs k=>⟨(bI.length va).symm▸tP hs,
   have AW:=R'.new (ao:= .lst as) (s':={s₁ with heap:=s₁.heap.push {cls:= .type "list",data:= .seq vs.toArray}}) R'.K0 (aN _ rfl) ⟨vs.toArray,⟨_,rfl⟩,bI.up (dC.refl _) (Ext.snoc _ _) _ va⟩ (λ b o e=>aA _ e) ⟨rfl,rfl,rfl⟩
   PE.up g (x.trans (Ext.snoc _ _)) (PE.here AW (VR.IP R'.Dk) k)⟩)
 ab:=λ s=>bO (es.ab s) λ vs s=>nB (bB vs.length 9) (af [(.ex (.own s.mem.length),⟨s.loc,s.mem++[.lst vs]⟩)])
 cN:=λ fo s outs h σ gs=>(es.cN fo).bind h gs λ vs s' l h' us bZ ga p6=>nB.u h' λ e h'=>
  D2.one (σ:=⟨bZ.loc,bZ.mem++[.lst us]⟩) h' (ah AV.own p6.mem.len.symm) ⟨p6.loc,p6.mem.app (o:= .lst vs) ⟨us,rfl,ga⟩ rfl⟩ λ K z=>cJ.i (Di ga e) z
end
def setAt(l:ae AV)(i:Nat)(v:AV):ae AV:=MU v l i
theorem Df{v u:AV}{Q:Prop}:∀{l:ae AV} {i j:Nat},(setAt l i v)[j]?=af u->(j=i->u=v->Q)->(j≠i->l[j]?=af u->Q)->Q
 |[],_,_=>λ h aa aa=>cu h
 |_::_,0,0=>λ h k aa=>k rfl (ak h).symm
 |_::_,0,_+1=>λ h aa k=>k (cx _) h
 |_::_,_+1,0=>λ h aa k=>k (cx _).symm h
 |_::l,i+1,j+1=>λ h k k'=>Df (l:=l) (i:=i) (j:=j) h (λ e=>k (ah (·+1) e)) λ n=>k' λ e=>n (eG e)
section
variable{P:cC}{ct:Ct}{F:Fd}{G:BM}{ρ:ae au}{σ:St}{s s':ar}
noncomputable def oZ(ct:Ct)(i:Nat)(x:bM):aC:=(ct.aR[i]?==af x)&&((ct.names.lookup x==af .local)||(!ct.ro&&(ct.names.lookup x==af .cell)))
theorem NX{h:Heap}{a:au}{m m':bM->aq am}(x:h.Ns a m)(y:h.Ns a m')(n:bM):m n=m' n:=by
 obtain⟨o,es,ep,ho,hd,_,hf⟩:=x
 obtain⟨o',A0,Jw,EF,K8,_,hf'⟩:=y
 have e:=Data.dict.inj (hd.symm.trans ((ah Obj.data (ak (ho.symm.trans EF))).trans K8))
 exact(hf n).symm.trans (e.1▸hf' n)
theorem RF.Yv{c:au}{h':Heap}{t:Nat}{XX:ae AV}(R:RF F ct.aR G ρ σ s)(hs:kS c s.heap h')(cr:c∉ρ)(cG:G c=none)(nf:∀a,F.free a->a≠c)(hc:∃o,h'.get? c=af o)
  (ns:∃m,h'.Ns F.env.locals m) (cs:∀y d,F.env.cells.lookup y=af d->∃v,h'.IsCell d v) (loc:∀(i:Nat) x v,ct.aR[i]?=af x->XX[i]?=af v->v≠ .undef->∃u,VR G ρ v u/\At F.env h' x u):RF F ct.aR G ρ ⟨XX,σ.mem⟩ {s with heap:=h',toks:=t}:=
 have kp:∀a o,a≠c->s.heap.get? a=af o->h'.get? a=af o:=λ a o n e=>hs.extBut a o n e
 {rm:=R.rm.Ht λ a o q e=>kp a o (λ z=>q.elim (λ q=>cr (z▸q)) λ q=>de cG (z▸q)) e
  ns:=ns
  loc:=loc
  lG:=R.lG
  A3:=R.A3
  cell:=λ y d e=>have h:=R.cell y d e; ⟨h.1,h.2.1,cs y d e,h.2.2.2⟩
  pY:=R.pY
  keep:=λ a o n f e=>kp a o (nf a f) (R.keep a o n f e)
  live:=λ a o e=>(d0 (a=c)).elim (λ z=>z▸hc) λ z=>(R.live a o e).imp λ o'=>kp a o' z
  ext:=R.ext
  nw:=R.nw
  B9:=R.B9
  A2:=R.A2
  gz:=R.gz}
theorem RF.GT{h':Heap}{i:Nat}{x:bM}{av:AV}{u:am}(nd:ct.aR.Nodup)(R:RF F ct.aR G ρ σ s)(Jv:ct.aR[i]?=af x)(va:VR G ρ av u)(ax:At F.env h' x u)(ao:∀y w,y≠x->At F.env s.heap y w->At F.env h' y w):
  ∀(j:Nat) y v,ct.aR[j]?=af y->(setAt σ.loc i av)[j]?=af v->v≠ .undef->∃u,VR G ρ v u/\At F.env h' y u:=
 λ j y v e e' n=>Df e' (λ ji z=>z.symm▸⟨u,va,ak (Jv.symm.trans (ji▸e))▸ax⟩) λ n1 e'=>(R.loc j y v e e' n).imp λ w=> .imp_right (ao y w λ z=>n1 ((nQ (jp e) nd).mp (e.trans ((ah af z).trans Jv.symm))))
theorem Dm{i:Nat}{x:bM}{av:AV}{u:am}{Q:e7->ar->Prop}(O:gH P ct F)(R:RF F ct.aR G ρ σ s)(Jv:ct.aR[i]?=af x)(ck:F.env.kindOf x=af .local)(va:VR G ρ av u)
  (h:∀s',RF F ct.aR G ρ ⟨setAt σ.loc i av,σ.mem⟩ s'->Q () s'):WP P F.A (t3 F.env x u) Q s:=
 R.ns.elim λ m hm=>X.any<|wpAny_storeName_local ck hm (λ h' hn hs=>h _<|
  R.Yv hs R.A3 R.lG (λ aa f=>f.1) (hn.imp λ o h=>h.elim λ aa h=>h.elim λ aa h=>h.1) ⟨_,hn⟩ (λ y d e=>have h:=R.cell y d e; h.2.2.1.imp λ aa hv=>hv.sameBut hs h.1)
   (R.GT O.vh Jv va (.inl ⟨ck,_,hn,dj rfl⟩) λ y w ne=> .imp (.imp_right λ h=>h.elim λ m' h=>⟨_,hn,(bC ne).trans ((NX hm h.1 y).trans h.2)⟩) (.imp_right<| .imp λ c h=>⟨h.1,h.2.sameBut hs (R.cell y c h.1).1⟩))) (by rw[O.kind]; rfl)
theorem Fm{i:Nat}{x:bM}{av:AV}{u:am}{Q:e7->ar->Prop}(O:gH P ct F)(R:RF F ct.aR G ρ σ s)(Jv:ct.aR[i]?=af x)(hro:F.ro=false){c:au}(hc:F.env.cells.lookup x=af c)(ck:F.env.kindOf x=af .cell)(va:VR G ρ av u)
  (h:∀s',RF F ct.aR G ρ ⟨setAt σ.loc i av,σ.mem⟩ s'->Q () s'):WP P F.A (t3 F.env x u) Q s:=
 have k:=R.cell x c hc
 k.2.2.1.elim λ s6 hv=>X.any<|wpAny_storeName_cell O.kind ck hc hv λ h' hv' hs=>h _<|
  R.Yv hs k.2.1 (k.2.2.2 ck) (λ aa f z=>f.2 hro x ck (z▸hc)) (hv'.imp λ aa h=>h.1) (R.ns.imp λ aa hm=>hm.sameBut hs (Ne.symm k.1))
   (λ y d e=>(d0 (d=c)).elim (λ z=>z▸⟨_,hv'⟩) λ z=>(R.cell y d e).2.2.1.imp λ aa hv=>hv.sameBut hs z)
   (R.GT O.vh Jv va (.inr ⟨.inl ck,c,hc,hv'⟩) λ y w ne=> .imp (.imp_right<| .imp λ aa h=>⟨h.1.sameBut hs (Ne.symm k.1),h.2⟩) (.imp_right<| .imp λ d h=>⟨h.1,h.2.sameBut hs λ z=>ne (R.pY y x c (z▸h.1) hc)⟩))
theorem tR{i:Nat}{x:bM}{av:AV}{u:am}{Q:e7->ar->Prop}(O:gH P ct F)(R:RF F ct.aR G ρ σ s)(c:oZ ct i x=true)(va:VR G ρ av u)
  (h:∀s',RF F ct.aR G ρ ⟨setAt σ.loc i av,σ.mem⟩ s'->Q () s'):WP P F.A (t3 F.env x u) Q s:=
 have kn:F.env.kindOf x=ct.names.lookup x:=ah (List.lookup x) O.names
 (g6.mp (aG c).2).elim (λ ck=>Dm O R (be.mp (aG c).1) (kn.trans (be.mp ck)) va h)
  λ ck=>have e:=be.mp (aG ck).2; (O.cells x e).elim λ aa hc=>Fm O R (be.mp (aG c).1) (O.ro.trans (nb (aG ck).1)) hc (kn.trans e) va h
noncomputable def Fd.now(F:Fd)(G:BM)(ρ:ae au)(s:ar):Fd:={F with h₀:=s.heap,gE:=ρ,G₀:=G,Z:=s}
theorem gH.now(O:gH P ct F)(R:RF F ct.aR G ρ σ s):gH P ct (F.now G ρ s):=⟨O.kind,O.names,O.glob,O.blt,O.room,R.i7 O,O.vh,O.ro,O.cells,λ e=>R.ext.get (O.tb e),O.cq⟩
theorem RF.now(R:RF F ct.aR G ρ σ s):RF (F.now G ρ s) ct.aR G ρ σ s:=
 ⟨R.rm,R.ns,R.loc,R.lG,R.A3,R.cell,R.pY,λ aa aa aa aa e=>e,λ aa o e=>⟨o,e⟩,Ext.refl _,λ aa h=> .inl h,dC.refl _,λ aa aa e=> .inl e,GZ.of ⟨rfl,rfl,rfl⟩⟩
theorem RF.then{G':BM}{ρ':ae au}{bZ:St}(R:RF F ct.aR G ρ σ s)(R':RF (F.now G ρ s) ct.aR G' ρ' bZ s'):RF F ct.aR G' ρ' bZ s':=
 ⟨R'.rm,R'.ns,R'.loc,R'.lG,R'.A3,R'.cell,R'.pY,λ a o n f e=>R'.keep a o (λ hm=>(R.nw a hm).elim n λ q=>de q e) f (R.keep a o n f e),λ a o e=>(R.live a o e).elim λ o' e'=>R'.live a o' e',R.ext.trans R'.ext,
  λ a h=>(R'.nw a h).elim (R.nw a) λ q=> .inr (R.dead q),R.B9.trans R'.B9,λ a o e=>(R'.A2 a o e).elim (R.A2 a o) λ q=> .inr (R.dead q),R.gz.trans R'.gz⟩
end
section
variable{P:cC}{ct:Ct}
theorem D2.fk{t:AF}{a:Fl}{s:AS}{σ:St}{R:(Fl->St->Prop)->Prop}(ga:GF t a)(gs:GS s σ)(k:∀K:Fl->St->Prop,K a σ->R K):D2 R GF [(t,s)]:=(D2.ret ga gs).eq k
def sv(l:ae TV)(i:Nat)(v:TV):ae TV:=MU v l i
theorem dD.Ap{t:TV}{u:AV}(g:GV t u):∀{ts:ae TV} {i:Nat} {us:ae AV},dD ts us->dD (sv ts i t) (setAt us i u)
 |[],_=>λ h=>h.u0 (Q:=λ us=>dD [] (setAt us _ u)) rfl
 |_::ts,0=>λ h=>h.uc (Q:=λ us=>dD (t::ts) (setAt us 0 u)) λ aa aa aa h=> .cons g h
 |a::ts,i+1=>λ h=>h.uc (Q:=λ us=>dD (a::sv ts i t) (setAt us (i+1) u)) λ aa aa a h=> .cons a (dD.Ap g h)
theorem dD.set{ts:ae TV}{us:ae AV}(i:Nat){t:TV}{u:AV}(h:dD ts us)(g:GV t u):dD (sv ts i t) (setAt us i u):=dD.Ap g h
def AS.set(s:AS)(i:Nat)(t:TV):AS:=⟨sv s.loc i t,s.mem⟩
noncomputable def YP(p:c7):SX P ct where
 bA:= .Pass p
 run:=λ σ K=>K .d7 σ
 b_:=true
 ok:=λ aa F G ρ σ s Kv O R h=>X.any<|wpAny_Pass ⟨G,ρ, .d7,σ,dC.refl _,Ext.refl _,R,rfl,h⟩
 ab:=λ s=>af [(.d7,s)]
 cN:=λ aa s outs h σ gs=>D2.one h rfl gs λ aa k=>k
noncomputable def Ff(e:SE P ct)(p:c7):SX P ct where
 bA:= .Return (af e.bA) p
 run:=λ σ K=>e.run σ λ v aI=>K (.ret v) aI
 b_:=e.b_
 ok:=λ c F G ρ σ s Kv O R h=>X.t7 (X.mono (e.ok c F G ρ σ s _ O R h) λ v s₁ z=>z.u λ G' ρ' a bZ g x R' va k=>⟨G',ρ', .ret a,bZ,g,x,R',⟨v,rfl,va⟩,k⟩)
 ab:=JZ e.ab λ t s=>af [(.ret t,s)]
 cN:=λ fo=>nA fo λ t s outs a σ h ga gs=>D2.one h ⟨a,rfl,ga⟩ gs λ K z=>z
noncomputable def YQ(p:c7):SX P ct where
 bA:= .Return none p
 run:=λ σ K=>K (.ret .none) σ
 b_:=true
 ok:=λ aa F G ρ σ s Kv O R h=>X.any<|wpAny_Return_none ⟨G,ρ, .ret .none,σ,dC.refl _,Ext.refl _,R,⟨_,rfl,VR.none_⟩,h⟩
 ab:=λ s=>af [(.ret (.ex .none),s)]
 cN:=λ aa s outs h σ gs=>D2.one h ⟨_,rfl,rfl⟩ gs λ K z=>z
theorem PF.d7{F:Fd}{aR:ae bM}{G G':BM}{ρ ρ':ae au}{bZ:St}{s':ar}{K:Fl->St->Prop}(g:dC G G')(x:Ext ρ ρ')(R:RF F aR G' ρ' bZ s')(h:K .d7 bZ):PF F aR G ρ K .next s':=
 ⟨G',ρ', .d7,bZ,g,x,R,rfl,h⟩
def St.set(σ:St)(i:Nat)(v:AV):St:=⟨setAt σ.loc i v,σ.mem⟩
def MJ(i:Nat)(p':c7)(e:SE P ct)(p:c7):SX P ct where
 bA:= .Assign [.Name (G0 ct i) p'] e.bA p
 run:=λ σ K=>e.run σ λ v aI=>K .d7 (aI.set i v)
 b_:=oZ ct i (G0 ct i)&&(vg 2 e.bA&&e.b_)
 ok:=λ c F G ρ σ s Kv O R h=>X.Bi (Hv (aG (aG c).2).1) (X.mono (e.ok (aG (aG c).2).2 F G ρ σ s _ O R h) λ v s₁ z=>z.u λ G' ρ' a bZ g x R' va k=>tR O R' (aG c).1 va λ s' AW=>PF.d7 g x AW k)
 ab:=JZ e.ab λ t s=>af [(.d7,s.set i t)]
 cN:=λ fo=>nA fo λ t s outs a σ h ga gs=>D2.one (σ:=σ.set i a) h rfl ⟨gs.loc.set i ga,gs.mem⟩ λ K z=>z
def acj(i:Nat)(p':c7)(op:cF)(e:SE P ct)(p:c7):SX P ct where
 bA:= .AugAssign (.Name (G0 ct i) p') op e.bA p
 run:=λ σ K=>ldK (fy σ.loc i) σ λ a aI=>e.run aI λ b aU=>zB op a b aU λ r dz=>K .d7 (dz.set i r)
 b_:=Ac ct i (G0 ct i)&&(oZ ct i (G0 ct i)&&e.b_)
 ok:=λ c F G ρ σ s Kv O R h=>X.vK (X.mono (X.any (Cx O R (aG c).1 h)) λ v s₁ z=>by
  exact z.u λ dU c6 a aI fG fb dQ va bH=>X.mono (e.ok (aG (aG c).2).2 F dU c6 aI s₁ _ O dQ bH) λ u bp z=>z.u λ jn gZ b aU jd jr gJ vb cU=>
   X.mono (X.any (rV gJ (va.up jd jr) vb cU)) λ r fS z=>z.u λ rJ kZ r' dz ku kJ lu vr fE=>tR O lu (aG (aG c).2).1 vr λ s' AW=>PF.d7 (fG.trans (jd.trans ku)) (fb.trans (jr.trans kJ)) AW fE)
 ab:=λ s=>bO (aLd s i) λ t s=>bO (e.ab s) λ u s=>bO (JQ op t u s) λ r s=>af [(.d7,s.set i r)]
 cN:=λ fo s outs h σ gs=>ob.u h λ l e1 h=>D2.bind (JW e1 gs) h λ t s' l' h' a bZ ga p6=>(e.cN fo).bind h' p6 λ u bp l₂ cU b aU gb nZ=>ob.u cU λ afI e3 cU=>
  D2.bind (Oy e3 ga gb nZ) cU λ r fS afJ fE c dz gc RN=>D2.one (σ:=dz.set i c) fE rfl ⟨RN.loc.set i gc,RN.mem⟩ λ K z=>z
noncomputable def lC:SS P ct where
 bA:=[]
 run:=λ σ K=>K .d7 σ
 b_:=true
 ok:=λ aa F G ρ σ s Kv O R h=>X.any<|wpAny_execs_nil (PF.d7 (dC.refl _) (Ext.refl _) R h)
 ab:=λ s=>af [(.d7,s)]
 cN:=λ aa s outs h σ gs=>D2.one h rfl gs λ aa k=>k
def r7(f:Fl)(σ:St)(d7:St->Prop)(K:Fl->St->Prop):Prop:=match f with
 | .d7=>d7 σ
 | .ret v=>K (.ret v) σ
noncomputable def ZI(f:AF)(s:AS)(nx:AS->aq (ae (AF×AS))):aq (ae (AF×AS)):=match f with
 | .d7=>nx s
 | .ret t=>af [(.ret t,s)]
theorem D1{f:AF}{s:AS}{nx:AS->aq (ae (AF×AS))}{l:ae (AF×AS)}{a:Fl}{σ:St}{C:St->(Fl->St->Prop)->Prop}(hn:Ab nx C GF)(h:ZI f s nx=af l)(ga:GF f a)(gs:GS s σ):D2 (λ K=>r7 a σ (λ aU=>C aU K) K) GF l:=by
 rcases f with _|t
 ·exact(show a= .d7 from ga)▸hn s l h σ gs
 ·exact aD ga λ v g=>g.1▸D2.one h ⟨v,rfl,g.2⟩ gs λ K z=>z
noncomputable def iH(x:SX P ct)(r:SS P ct):SS P ct where
 bA:=x.bA::r.bA
 run:=λ σ K=>x.run σ λ f aI=>r7 f aI (λ aU=>r.run aU K) K
 b_:=x.b_&&r.b_
 ok:=λ c F G ρ σ s Kv O R h=>X.execs_cons (X.mono (x.ok (aG c).1 F G ρ σ s _ O R h) λ f s₁ z=>z.u λ G' ρ' fl bZ g x R' fr k=>match fl,fr,k with
  | .d7,fr,k=>(show f= .next from fr).symm▸X.mono (r.ok (aG c).2 F G' ρ' bZ s₁ _ O R' k) λ aa aa=>PF.up g x
  | .ret v,fr,k=>aD fr λ u e=>e.1.symm▸⟨G',ρ', .ret v,bZ,g,x,R',⟨u,rfl,e.2⟩,k⟩)
 ab:=λ s=>bO (x.ab s) λ f s=>ZI f s r.ab
 cN:=λ fo s outs h σ gs=>(x.cN fo).bind h gs λ f s' l h' a bZ ga p6=>D1 (r.cN fo) h' ga p6
noncomputable def sIf(t:ST P ct)(a b:SS P ct)(p:c7):SX P ct where
 bA:= .If t.bA a.bA b.bA p
 run:=λ σ K=>t.run σ λ c aI=>aY c (a.run aI K) (b.run aI K)
 b_:=t.b_&&(a.b_&&b.b_)
 ok:=λ c F G ρ σ s Kv O R h=>X.If (X.mono (t.ok (aG c).1 F G ρ σ s _ O R h) λ v s₁ z=>z.u λ G' ρ' bZ g x R' k=>match v,k with
  |false,k=>X.mono (b.ok (aG (aG c).2).2 F G' ρ' bZ s₁ _ O R' k) λ aa aa=>PF.up g x
  |true,k=>X.mono (a.ok (aG (aG c).2).1 F G' ρ' bZ s₁ _ O R' k) λ aa aa=>PF.up g x)
 ab:=λ s=>bO (t.ab s) λ c s=>aY c (a.ab s) (b.ab s)
 cN:=λ fo s outs h σ gs=>(t.cN fo).bind h gs λ c s' l h' c' bZ ga p6=>ga▸match c,h' with
  |false,h'=>b.cN fo s' l h' bZ p6
  |true,h'=>a.cN fo s' l h' bZ p6
noncomputable def lR(t:St->(aC->St->Prop)->Prop)(b:St->(Fl->St->Prop)->Prop):Nat->St->(Fl->St->Prop)->Prop
 |0,_,_=>False
 |n+1,σ,K=>t σ λ c aI=>aY c (b aI λ f aU=>r7 f aU (λ dz=>lR t b n dz K) K) (K .d7 aI)
noncomputable def Vr(t:AS->aq (ae (aC×AS)))(b:AS->aq (ae (AF×AS))):Nat->AS->aq (ae (AF×AS))
 |0,_=>none
 |n+1,s=>bO (t s) λ c s=>aY c (bO (b s) λ f s=>ZI f s (Vr t b n)) (af [(.d7,s)])
theorem HI{ta:AS->aq (ae (aC×AS))}{ba:AS->aq (ae (AF×AS))}{t:St->(aC->St->Prop)->Prop}{b:St->(Fl->St->Prop)->Prop}(ht:Ab ta t Eq)(hb:Ab ba b GF):∀n,Ab (Vr ta ba n) (lR t b n) GF
 |0=>λ aa aa h=>cu h
 |n+1=>λ s outs h σ gs=>ht.bind h gs λ c s' l h' c' bZ ga p6=>ga▸match c,h' with
  |false,h'=>D2.one h' rfl p6 λ K z=>z
  |true,h'=>hb.bind h' p6 λ f bp l₂ cU a aU ga nZ=>D1 (HI ht hb n) cU ga nZ
noncomputable def MM(t:ST P ct)(b:SS P ct)(p:c7):SX P ct where
 bA:= .While t.bA b.bA [] p
 run:=λ σ K=>∃N,lR t.run b.run N σ K
 b_:=t.b_&&b.b_
 ok:=λ c F G ρ σ s Kv O R h=>X.While (h.elim λ N h=>X.whileLoop (λ n s'=>PB F ct.aR G ρ (λ aa bZ=>lR t.run b.run n bZ Kv) true s') (λ n s' hI=>hI.u λ dU c6 aI fG fb dQ bH=>match n,bH with
  |0,bH=>bH.elim
  |n+1,bH=>X.mono (t.ok (aG c).1 F dU c6 aI s' _ O dQ bH) λ v bp z=>z.u λ jn gZ aU jd jr gJ cU=>match v,cU with
   |false,cU=>PF.d7 (fG.trans jd) (fb.trans jr) gJ cU
   |true,cU=>X.mono (b.ok (aG c).2 F jn gZ aU bp _ O gJ cU) λ f fS z=>z.u λ rJ kZ fl dz ku kJ lu fr fE=>match fl,fr,fE with
    | .d7,fr,fE=>(show f= .next from fr).symm▸⟨n,jm n,rJ,kZ,dz,fG.trans (jd.trans ku),fb.trans (jr.trans kJ),lu,fE⟩
    | .ret v,fr,fE=>aD fr λ u e=>e.1.symm▸⟨rJ,kZ, .ret v,dz,fG.trans (jd.trans ku),fb.trans (jr.trans kJ),lu,⟨u,rfl,e.2⟩,fE⟩) N ⟨G,ρ,σ,dC.refl _,Ext.refl _,R,h⟩)
 ab:=Vr t.ab b.ab 12
 cN:=λ fo s outs h σ gs=>(HI (t.cN fo) (b.cN fo) 12 s outs h σ gs).eq λ K z=>⟨12,z⟩
end
def St.put(σ:St)(p:Nat)(o:AO):St:=⟨σ.loc,bz σ.mem p o⟩
def pB(m:ae AO)(p:Nat)(K:AO->Prop):Prop:=match bK m p with
 |some o=>K o
 |none=>False
theorem pB.u{m:ae AO}{p:Nat}{K:AO->Prop}{Q:Prop}(h:pB m p K)(k:∀o,bK m p=af o->K o->Q):Q:=by
 unfold pB at h
 cases e:bK m p with
 |none=>rw[e] at h; exact h.elim
 |some o=>rw[e] at h; exact k o e h
theorem G9{m:ae AO}{p:Nat}{K:AO->Prop}(h:pB m p K):∃o,m[p]?=af o/\K o:=h.u λ o e k=>⟨o,(eI m p).symm.trans e,k⟩
theorem dF{m:ae AO}{p:Nat}{o:AO}{K:AO->Prop}(h:bK m p=af o)(k:K o):pB m p K:=by unfold pB; rw[h]; exact k
noncomputable def need(p:Prop)[fA p](k:Prop):Prop:=aY (decide p) k False
theorem need.u{p:Prop}[d:fA p]{k Q:Prop}(h:need p k)(f:p->k->Q):Q:=by
 cases d with
 |isTrue e=>exact f e h
 |isFalse e=>exact h.elim
theorem PR{p:Prop}[fA p]{k:Prop}(h:need p k):p/\k:=h.u .intro
theorem Te{p:Prop}[fA p]{k:Prop}(q:p)(h:k):aY (decide p) k False:=(cy q).symm▸h
def II(o:aq AV)(K:AV->Prop):Prop:=match o with
 |some v=>K v
 |none=>False
theorem II.u{o:aq AV}{K:AV->Prop}{Q:Prop}(h:II o K)(k:∀v,o=af v->K v->Q):Q:=by
 rcases o with _|v
 ·exact h.elim
 ·exact k v rfl h
theorem r8{o:aq AV}{K:AV->Prop}{v:AV}(e:o=af v)(k:K v):II o K:=e▸k
theorem S0{k x:Nat}(q:k≠x):a_ k x=false:=by
 cases h:a_ k x with
 |false=>rfl
 |true=>exact bt (aL h) q
theorem L_{k x:Nat}(q:a_ k x=false):k≠x:=λ e=>by rw[e,uD] at q; cases q
section
variable{k x:Nat}{ks:ae Nat}{h:Int}{t:j_}{u:am}{es:ae bi}{us:ae am}
theorem t6.u0{Q:ae bi->ae am->Prop}(h:t6 [] es us)(f:Q [] []):Q es us:=(eD h)▸(f4 h)▸f
theorem t6.uc{Q:ae bi->ae am->Prop}(h:t6 (k::ks) es us)(f:∀h t u es us,k < NM->t6 ks es us->Q (⟨h, .str (nm k) t,u⟩::es) (u::us)):Q es us:=
 aD h λ aa h=>h.elim λ aa h=>h.elim λ aa h=>h.elim λ aa h=>h.elim λ aa h=>h.1▸h.2.1▸f _ _ _ _ _ h.2.2.1 h.2.2.2
theorem t6.cons(hk:k < NM)(r:t6 ks es us):t6 (k::ks) (⟨h, .str (nm k) t,u⟩::es) (u::us):=⟨h,t,u,es,us,rfl,rfl,hk,r⟩
theorem R6(hk:k < NM)(hx:x < NM)(q:k=x):(nm k==nm x)=true:=(E2 hk hx).trans (be.mpr q)
theorem R7(hk:k < NM)(hx:x < NM)(q:k≠x):(nm k==nm x)=false:=(E2 hk hx).trans (d9.mpr q)
theorem KZ(e:(nm k==nm x)=true):getL (nm x) (⟨h, .str (nm k) t,u⟩::es)=af (af u):=by
 unfold getL
 rw[List.find?_cons,show((⟨h, .str (nm k) t,u⟩:bi).key.isStr (nm x))=true from e]
theorem yI(e:(nm k==nm x)=false):getL (nm x) (⟨h, .str (nm k) t,u⟩::es)=getL (nm x) es:=by
 unfold getL
 rw[List.find?_cons,show((⟨h, .str (nm k) t,u⟩:bi).key.isStr (nm x))=false from e]; rfl
theorem Mu{hs:Int}{key v:am}(e:(nm k==nm x)=true):putL (nm x) hs key v (⟨h, .str (nm k) t,u⟩::es)=⟨h, .str (nm k) t,v⟩::es:=dj e
theorem IT{hs:Int}{key v:am}(e:(nm k==nm x)=false):putL (nm x) hs key v (⟨h, .str (nm k) t,u⟩::es)=⟨h, .str (nm k) t,u⟩::putL (nm x) hs key v es:=bC λ z=>ay (e.symm.trans z)
end
theorem LU{G:BM}{ρ:ae au}{x:Nat}{v:AV}(hx:x < NM):∀{ks:ae Nat} {vs:ae AV} {es:ae bi} {us:ae am},lk ks vs x=af v->t6 ks es us->bI G ρ vs us->
  ∃u,getL (nm x) es=af (af u)/\VR G ρ v u
 |[],_,_,_=>λ h aa aa=>cu h
 |_::_,[],_,_=>λ h aa aa=>cu h
 |k::ks,w::vs,_,_=>λ h hk hv=>hk.uc (Q:=λ es us=>bI G ρ (w::vs) us->∃u,getL (nm x) es=af (af u)/\VR G ρ v u) (λ aa aa u aa aa kn hk hv=>
   condB h (λ e h=>⟨u,KZ (R6 kn hx (aL e)),ak h▸hv.cc.1⟩) λ e h=>(yI (R7 kn hx (L_ e))).symm▸LU hx h hk hv.cc.2) hv
section
variable{G:BM}{ρ:ae au}{x:Nat}{hsh:Int}{t:j_}{v:AV}{u:am}
def NZ(G:BM)(ρ:ae au)(ks:ae Nat)(vs:ae AV)(es:ae bi):Prop:=∃us,t6 ks es us/\bI G ρ vs us
theorem t6.put(hx:x < NM)(hu:VR G ρ v u):∀{ks:ae Nat} {vs:ae AV} {es:ae bi} {us:ae am},t6 ks es us->bI G ρ vs us->NZ G ρ (putK ks x) (IW ks vs x v) (putL (nm x) hsh (.str (nm x) t) u es)
 |[],vs,_,_=>λ hk hv=>hk.u0 (Q:=λ es us=>bI G ρ vs us->NZ G ρ [x] (IW [] vs x v) (putL (nm x) hsh (.str (nm x) t) u es)) (λ aa=>⟨[u], .cons hx ⟨rfl,rfl⟩, .cons hu .nil⟩) hv
 |k::ks,[],_,_=>λ hk hv=>hk.uc (Q:=λ es us=>bI G ρ [] us->NZ G ρ (putK (k::ks) x) (IW (k::ks) [] x v) (putL (nm x) hsh (.str (nm x) t) u es)) (λ aa aa aa aa aa aa aa hv=>bt (show _::_=[] from hv) (lE _ _)) hv
 |k::ks,w::vs,_,_=>λ hk hv=>hk.uc (Q:=λ es us=>bI G ρ (w::vs) us->NZ G ρ (m8 a_ (k::ks) x) (jS a_ (k::ks) (w::vs) x v) (putL (nm x) hsh (.str (nm x) t) u es)) (λ hh t' u' es us kn hk hv=>by
   cases q:a_ k x with
   |true=>rw[qA q,n_ q,Mu (R6 kn hx (aL q))]; exact⟨u::us,hk.cons kn, .cons hu hv.cc.2⟩
   |false=>rw[mH q,k_ q,IT (R7 kn hx (L_ q))]; exact(t6.put hx hu hk hv.cc.2).elim λ us h=>⟨u'::us,h.1.cons kn, .cons hv.cc.1 h.2⟩) hv
end
theorem t6.len:∀{ks:ae Nat} {es:ae bi} {us:ae am},t6 ks es us->es.length=ks.length
 |[],_,_=>λ h=>h.u0 (Q:=λ es aa=>es.length=0) rfl
 |_::ks,_,_=>λ h=>h.uc (Q:=λ es aa=>es.length=ks.length+1) λ aa aa aa aa aa aa h=>ah (·+1) h.len
theorem t6.noRef:∀{ks:ae Nat} {es:ae bi} {us:ae am},t6 ks es us->es.any (·.refKey)=false
 |[],_,_=>λ h=>h.u0 (Q:=λ es aa=>es.any (·.refKey)=false) rfl
 |_::_,_,_=>λ h=>h.uc (Q:=λ es aa=>es.any (·.refKey)=false) λ aa aa aa aa aa aa h=>h.noRef
section
variable{P:cC}
def E6(o:AO)(K:au->Nat->Prop):Prop:=match o with
 | .inst C j=>K C j
 |_=>False
def P7(o:AO)(K:ae Nat->ae AV->Prop):Prop:=match o with
 | .ns ks vs=>K ks vs
 |_=>False
def CV(m:ae AO)(p:Nat)(K:au->Nat->ae Nat->ae AV->Prop):Prop:=pB m p λ o=>E6 o λ C j=>pB m j λ o=>P7 o λ ks vs=>K C j ks vs
theorem E6.u{o:AO}{K:au->Nat->Prop}{Q:AO->Prop}(h:E6 o K)(k:∀C j,K C j->Q (.inst C j)):Q o:=by
 rcases o with _|_|⟨C,j⟩|_|_|_|_|_
 all_goals first|exact h.elim|exact k C j h
theorem P7.u{o:AO}{K:ae Nat->ae AV->Prop}{Q:AO->Prop}(h:P7 o K)(k:∀ks vs,K ks vs->Q (.ns ks vs)):Q o:=by
 rcases o with _|_|_|⟨ks,vs⟩|_|_|_|_
 all_goals first|exact h.elim|exact k ks vs h
theorem CV.u{m:ae AO}{p:Nat}{K:au->Nat->ae Nat->ae AV->Prop}{Q:Prop}(h:CV m p K)(k:∀C j ks vs,bK m p=af (.inst C j)->bK m j=af (.ns ks vs)->K C j ks vs->Q):Q:=
 pB.u h λ o e h=>h.u (Q:=λ o=>bK m p=af o->Q) (λ C j h e=>pB.u h λ o e2 h=>h.u (Q:=λ o=>bK m j=af o->Q) (λ ks vs h e2=>k C j ks vs e e2 h) e2) e
theorem Ai{m:ae AO}{p j:Nat}{C:au}{ks:ae Nat}{vs:ae AV}{K:au->Nat->ae Nat->ae AV->Prop}(e:bK m p=af (.inst C j))(e2:bK m j=af (.ns ks vs))(k:K C j ks vs):CV m p K:=
 dF e (dF (K:=λ o=>P7 o λ ks vs=>K C j ks vs) e2 k)
def Pc(P:cC)(a:AV)(x:Nat)(mem:ae AO)(K:AV->Prop):Prop:=match a with
 | .own p=>CV mem p λ C aa ks vs=>cJ (P.at_ C x) (II (lk ks vs x) K)
 | .inst C ks vs=>cJ (P.at_ C x) (II (lk ks vs x) K)
 |_=>False
def lA(a:AV)(K:Nat->Prop):Prop:=match a with
 | .own p=>K p
 |_=>False
theorem lA.u{a:AV}{K:Nat->Prop}{Q:AV->Prop}(h:lA a K)(k:∀p,K p->Q (.own p)):Q a:=by
 rcases a with _|_|_|_|_|p|_|_|_|_|_|_|_|_|_|_|_|_
 all_goals first|exact h.elim|exact k p h
def MT(P:cC)(a:AV)(x:Nat)(v:AV)(σ:St)(K:St->Prop):Prop:=lA a λ p=>CV σ.mem p λ C j ks vs=>cJ (P.at_ C x&&bB ks.length 50) (K (σ.put j (.ns (putK ks x) (IW ks vs x v))))
theorem VR.handed{G:BM}{ρ:ae au}{a:AV}{v:am}(h:VR G ρ a v):xA v=true:=by
 have r:∀{x},v=x->xA x=true->xA v=true:=λ h k=>h▸k
 rcases a with _|_|_|_|_|_|_|_|_|_|_|_|_|_|_|_|_|_
 case undef=>exact h.elim
 case none=>exact r h rfl
 case bool=>exact r h rfl
 case int=>exact aD h λ aa h=>r h rfl
 case kq=>exact aD h λ aa h=>r h rfl
 case val=>exact r (eD h) (f4 h)
 case any=>exact h
 all_goals exact(VR.isRef h rfl).elim λ aa h=>r h rfl
theorem sp{K:f_}{C:au}{x:bM}(h:tu K C x=true):plainGet K C x=true/\hasDictIn K C=true/\(∃a,findIn K (.ref C) x=af a/\noGet K a=true)/\
  findIn K (.ref C) "__setattr__"=af (af (.builtin "object.__setattr__"))/\plainOver K C=true/\takerIn K C x=af none:=by
 have h1:=aG h
 have h2:=aG h1.1
 have h3:=aG h2.1
 have h4:=aG h3.1
 have h5:=aG h4.1
 refine⟨h5.1,h5.2,?_,be.mp h3.2,h2.2,be.mp h1.2⟩
 have c:=h4.2
 cases e:findIn K (.ref C) x with
 |none=>rw[e] at c; cases c
 |some a=>rw[e] at c; exact⟨a,rfl,c⟩
theorem K2{A:bn}{s:ar}{K:f_}{C x d:au}{prog:aK}{w:bw}{es:ae bi}{n:Nat}{name:bM}{v:am}{Q:am->ar->Prop}{e:aC}(X:K.In s.heap)(ok:tu K C name=true)
  (hx:s.heap.get? x=af (ge C d)) (hd:s.heap.get? d=af (nh es n)) (hl:getL name es=af (af v)) (hv:xA v=true) (h:Q v {s with toks:=s.toks+1}):
  aH (aE prog w) A (getAttr (.ref x) name e) Q dq s:=by
 have o:=sp ok
 exact o.2.2.1.elim λ c k=>get_value X (⟨hx,rfl,rfl,hd⟩:InstAt s.heap x (ge C d) C (af (nh es n))) (plainGet_of o.1).1 (findObj_own o.2.1 k.1 k.2 ((lookIn_dict ..).trans hl)) hv h
theorem RF.T2{F:Fd}{aR:ae bM}{G:BM}{ρ:ae au}{σ:St}{s:ar}{p j:Nat}{C:au}{ks:ae Nat}{vs:ae AV}{v:am}{Q:am->Prop}(R:RF F aR G ρ σ s)(va:VR G ρ (.own p) v)(e:bK σ.mem p=af (.inst C j))(e2:bK σ.mem j=af (.ns ks vs))
  (k:∀x d es n us,s.heap.get? x=af (ge C d)->ρ[j]?=af d->s.heap.get? d=af (nh es n)->t6 ks es us->bI G ρ vs us->Q (.ref x)):Q v:=
 va.P8 λ x hx=>(R.rm.obj p x _ hx ((eI ..).symm.trans e)).elim λ aa h=>h.2.elim λ d q=>(R.rm.obj j d _ q.1 ((eI ..).symm.trans e2)).elim λ aa h2=>h2.2.elim λ es q2=>q2.elim λ n q2=>q2.elim λ us q2=>
  k x d es n us (h.1.trans (ah af q.2)) q.1 (h2.1.trans (ah af q2.1)) q2.2.1 q2.2.2
theorem wq{ct:Ct}{F:Fd}{G:BM}{ρ:ae au}{σ:St}{s:ar}{C y d:au}{es:ae bi}{n:Nat}{us:ae am}{ks:ae Nat}{vs:ae AV}{x:Nat}{Kv:AV->St->Prop}{e:aC}(O:gH P ct F)(R:RF F ct.aR G ρ σ s)
  (hx:s.heap.get? y=af (ge C d)) (hd:s.heap.get? d=af (nh es n)) (hk:t6 ks es us) (hv:bI G ρ vs us) (h:cJ (P.at_ C x) (II (lk ks vs x) λ v=>Kv v σ)):
  aH (aE P.prog P.w) F.A (getAttr (.ref y) (nm x) e) (PE F ct.aR G ρ Kv) dq s:=
 h.u λ c h=>h.u λ aa e h=>have a:=P.attr _ _ c; (LU a.1 e hk hv).elim λ aa w=>K2 (R.K O) a.2 hx hd w.1 w.2.handed (PE.toks R w.2 h)
theorem wn{ct:Ct}{F:Fd}{G:BM}{ρ:ae au}{σ:St}{s:ar}{a:AV}{u:am}{x:Nat}{Kv:AV->St->Prop}{e:aC}(O:gH P ct F)(R:RF F ct.aR G ρ σ s)(va:VR G ρ a u)(h:Pc P a x σ.mem λ v=>Kv v σ):
  aH (aE P.prog P.w) F.A (getAttr u (nm x) e) (PE F ct.aR G ρ Kv) dq s:=by
 rcases a with _|_|_|_|_|p|_|_|_|_|_|_|_|⟨C,ks,vs⟩|_|_|_|_
 case own=>exact CV.u h λ C j ks vs e1 e2 h=>R.T2 (Q:=λ u=>aH (aE P.prog P.w) F.A (getAttr u (nm x) e) (PE F ct.aR G ρ Kv) dq s) va e1 e2 λ y d es n us h1 aa h3 h4 h5=>wq O R h1 h3 h4 h5 h
 case inst=>exact aD va λ y q=>q.elim λ d q=>q.elim λ es q=>q.elim λ n q=>q.elim λ us q=>q.1▸wq O R (R.rm.kg _ _ q.2.1) (R.rm.kg _ _ q.2.2.1) q.2.2.2.1 q.2.2.2.2 h
 all_goals exact h.elim
theorem MW{A:bn}{s:ar}{K:f_}{C x d:au}{prog:aK}{w:bw}{es:ae bi}{n:Nat}{name:bM}{v:am}{Q:e7->ar->Prop}(X:K.In s.heap)(ok:tu K C name=true)
  (hx:s.heap.get? x=af (ge C d)) (hd:s.heap.get? d=af (nh es n)) (hr:es.any (·.refKey)=false) (hz:(putL name (qo w.params name) (.str name (s.toks+1)) v es).length<=1000)
  (h:∀h',h'.get? d=af (nh (putL name (qo w.params name) (.str name (s.toks+1)) v es) (PySem.W.putN name es n))->(∀b o,b≠d->s.heap.get? b=af o->h'.get? b=af o)->Q () {s with heap:=h',toks:=s.toks+2}):
  aH (aE prog w) A (xC (.ref x) name v) Q dq s:=by
 obtain⟨_,hh,_,a,b,c⟩:=(sp ok)
 have I:InstAt s.heap x (ge C d) C (af (nh es n)):=⟨hx,rfl,rfl,hd⟩
 refine set_plain X I a (osa_open (s:={s with toks:=s.toks+1}) X I b c λ bb=>?_)
 obtain⟨cd,hc,K8⟩:=any_some hh
 have D':=dI (Obj.putName name (qo w.params name) (.str name (s.toks+1)) v) hd (by rw[putName_dict]; rfl)
 rw[putName_dict] at D'
 refine aj (aw (aj (aj (wpAny_loadPart hx (aj ((looks_clsIn X hc _ _ _ _ (λ aa aa e=>e) ?_)))))))
 rw[K8]
 refine aw (a:=af d) (aj (aw (aj ?_)))
 unfold nsSet
 refine aj (aj (iA (aw (aj (wpAny_mkText (aj (wpAny_loadPart hd ?_)))))))
 dsimp only
 have c:(!es.toArray.any (·.key.isStr name)&&es.toArray.any (·.refKey))=false:=by
  rw[← uB,← uB,hr,mX]
 rw[aRefKeyMayBeTheName_at,c]
 refine wpAny_updatePart hd ?_
 refine aj (wpAny_lookBehind D' (by exact pastItsLine_dict (by rw[cS,dX]; omega)) ?_)
 exact aw (h _ D' λ b o n e=>(dB ..).extBut b o n e)
theorem RF.rj{F:Fd}{aR:ae bM}{G:BM}{ρ:ae au}{σ:St}{s s':ar}(R:RF F aR G ρ σ s){i:Nat}{a:au}{vR:AO}{o':Obj}(hi:ρ[i]?=af a)(he:s'.heap.get? a=af o')(q:OR G ρ vR o')
  (k:∀b o,b≠a->s.heap.get? b=af o->s'.heap.get? b=af o) (z:s'.gens=s.gens/\s'.gens=s.gens/\s'.os=s.os):RF F aR G ρ (σ.put i vR) s':=by
 unfold St.put; rw[n7]; exact R.turn hi he q k z
theorem wV{ct:Ct}{F:Fd}{G:BM}{ρ:ae au}{σ:St}{s:ar}{a v:AV}{u y:am}{x:Nat}{K:St->Prop}{Q:e7->ar->Prop}(O:gH P ct F)(R:RF F ct.aR G ρ σ s)(va:VR G ρ a u)(vv:VR G ρ v y)(h:MT P a x v σ K)
  (hq:∀bZ s',RF F ct.aR G ρ bZ s'->K bZ->Q () s'):aH (aE P.prog P.w) F.A (xC u (nm x) y) Q dq s:=
 h.u (Q:=λ a=>VR G ρ a u->aH (aE P.prog P.w) F.A (xC u (nm x) y) Q dq s) (λ p h va=>h.u λ C j ks vs e1 e2 h=>R.T2 (Q:=λ u=>aH (aE P.prog P.w) F.A (xC u (nm x) y) Q dq s) va e1 e2 λ z d es n us h1 h2 h3 h4 h5=>h.u λ c h=>
  have a:=P.attr _ _ (aG c).1
  (h4.put (hsh:=qo P.w.params (nm x)) (t:=s.toks+1) a.1 vv h5).elim λ rl w=>
   MW (R.K O) a.2 h1 h3 h4.noRef (w.1.len.symm▸aF (y1 ks) (aF (eE (aP (aG c).2)) (by decide))) λ h' k1 k2=>
    hq _ _ (R.rj (vR:= .ns (putK ks x) (IW ks vs x v)) (s':={s with heap:=h',toks:=s.toks+2}) h2 k1 ⟨_,_,rl,rfl,w.1,w.2⟩ k2 ⟨rfl,rfl,rfl⟩) h) va
end
section
variable{P:cC}{ct:Ct}
abbrev tlk:ae Nat->ae TV->Nat->aq TV:=ES a_
abbrev Zb:ae Nat->ae TV->Nat->TV->ae TV:=jS a_
theorem GS.inst{s:AS}{σ:St}{p:Nat}{o o2:TO}{c:{c:au×Nat // o= .inst c.1 c.2}}{kv:{c:ae Nat×ae TV // o2= .ns c.1 c.2}}{Q:Prop}(gs:GS s σ)(h1:gR s.mem p=af o)(h2:gR s.mem c.1.2=af o2)
  (k:∀us,bK σ.mem p=af (.inst c.1.1 c.1.2)->bK σ.mem c.1.2=af (.ns kv.1.1 us)->dD kv.1.2 us->Q):Q:=
 (gs.mem.get p (.inst c.1.1 c.1.2) (h1.trans (ah af c.2))).elim λ aa m1=>(gs.mem.get c.1.2 (.ns kv.1.1 kv.1.2) (h2.trans (ah af kv.2))).elim λ aa m2=>aD m2.2 λ us g=>k us (m1.1.trans (ah af m1.2)) (m2.1.trans (ah af g.1)) g.2
def Wc(P:cC)(t:TV)(x:Nat)(s:AS):aq {u:TV // ∀a σ,GV t a->GS s σ->∃v,GV u v/\∀K:AV->Prop,K v->Pc P a x σ.mem K}:=
 oe (ob (nK t) λ p=>jK (gR s.mem p.1) λ o ho=>ob (G3 o) λ c=>jK (gR s.mem c.1.2) λ o2 h2=>ob (oNs o2) λ kv=>bE (P.at_ c.1.1 x) λ hx=>jK (tlk kv.1.1 kv.1.2 x) λ u hu=>af ⟨u,λ a σ ga gs=>
  gs.inst ho h2 λ us m1 m2 g=>(z7 g hu).elim λ v z=>⟨v,z.2,λ K k=>(show a= .own p.1 from(p.2▸ga:GV (.ex _) a)).symm▸Ai m1 m2 (cJ.i hx (r8 z.1 k))⟩⟩)
 (ob (Sq t) λ c=>bE (P.at_ c.1.1 x) λ hx=>jK (lk c.1.2.1 c.1.2.2 x) λ v hv=>af ⟨.ex v,λ a σ ga gs=>
  ⟨v,rfl,λ K k=>(show a= .inst c.1.1 c.1.2.1 c.1.2.2 from(c.2▸ga:GV (.ex _) a)).symm▸cJ.i hx (r8 hv k)⟩⟩)
def AS.put(s:AS)(j:Nat)(o:TO):AS:=⟨s.loc,qV s.mem j o⟩
def Wf(P:cC)(t:TV)(x:Nat)(u:TV)(s:AS):aq {s':AS // ∀a v σ,GV t a->GV u v->GS s σ->∃bZ,GS s' bZ/\∀K:St->Prop,K bZ->MT P a x v σ K}:=
 ob (nK t) λ p=>jK (gR s.mem p.1) λ o ho=>ob (G3 o) λ c=>jK (gR s.mem c.1.2) λ o2 h2=>ob (oNs o2) λ kv=>bE (P.at_ c.1.1 x&&bB kv.1.1.length 50) λ hx=>bE (a_ kv.1.1.length kv.1.2.length) λ hl=>af ⟨s.put c.1.2 (.ns (putK kv.1.1 x) (Zb kv.1.1 kv.1.2 x u)),λ a v σ ga gv gs=>
  gs.inst ho h2 λ us m1 m2 g=>⟨σ.put c.1.2 (.ns (putK kv.1.1 x) (IW kv.1.1 us x v)),⟨gs.loc,gs.mem.set (o:= .ns kv.1.1 kv.1.2) (h2.trans (ah af kv.2)) rfl ⟨_,rfl,qa gv (aL hl) g⟩ (.inl rfl)⟩,λ K k=>
   (show a= .own p.1 from(p.2▸ga:GV (.ex _) a)).symm▸Ai m1 m2 (cJ.i hx k)⟩⟩
noncomputable def Om(o:aB)(x:bM)(p:c7):Prop:=∀env,eval (.Attribute o x p) env=(do
   let v ← eval o env
   di p.atName
   let r ← holding [v] (getAttr v x true)
   iy o v r
   pure r)
theorem On{o:aB}(h:vg 5 o=true)(x:bM)(p:c7):Om o x p:=λ env=>(show eval (.Attribute o x p) env=(do
   let v ← attributeBase o x env (eval o env)
   di p.atName
   let r ← holding [v] (getAttr v x true)
   iy o v r
   pure r) from rfl).trans (ah (λ m:ie am=>m>>=λ v=>(do
   di p.atName
   let r ← holding [v] (getAttr v x true)
   iy o v r
   pure r)) (Rr h x env _))
def Dw(o:SE P ct)(x:Nat)(p:c7):SE P ct where
 bA:= .Attribute o.bA (nm x) p
 run:=λ σ K=>o.run σ λ a aI=>Pc P a x aI.mem λ v=>K v aI
 b_:=vg 5 o.bA&&o.b_
 star:=λ aa aa=>rfl
 ok:=λ c F G ρ σ s Kv O R h=>X.Attribute (On (aG c).1 _ _ _) (X.mono (o.ok (aG c).2 F G ρ σ s _ O R h) λ v s₁ z=>z.u λ G' ρ' a bZ g x R' va k=>Cu g x (wn O R' va k)) λ aa aa aa aa q=>wpAny_letTemporaryGo q
 ab:=JZ o.ab λ t s=>ob (Wc P t x s) λ u=>af [(u.1,s)]
 cN:=λ fo=>nA fo λ t s outs a σ h ga gs=>ob.u h λ u aa h=>(u.2 a σ ga gs).elim λ v k=>D2.one h k.1 gs λ K z=>k.2 _ z
def MK(o:SE P ct)(x:Nat)(p':c7)(e:SE P ct)(p:c7):SX P ct where
 bA:= .Assign [.Attribute o.bA (nm x) p'] e.bA p
 run:=λ σ K=>e.run σ λ v aI=>o.run aI λ a aU=>MT P a x v aU λ dz=>K .d7 dz
 b_:=vg 2 e.bA&&(e.b_&&o.b_)
 ok:=λ c F G ρ σ s Kv O R h=>X.tj (Hv (aG c).1) (SE.then e o (aG (aG c).2).1 (aG (aG c).2).2 O R h λ G' ρ' a b u v bZ s' g x R' va vb k=>
  X.any (wV O R' vb va k λ I_ s'' AW k=>PF.d7 g x AW k))
 ab:=Rq e.ab o.ab λ u t s=>ob (Wf P t x u s) λ s'=>af [(.d7,s'.1)]
 cN:=λ fo=>rK fo λ u t s outs v a σ h gv ga gs=>ob.u h λ s' aa h=>(s'.2 a v σ ga gv gs).elim λ bZ k=>D2.one h rfl k.1 λ K z=>k.2 _ z
def MI(o:SE P ct)(x:Nat)(p':c7)(op:cF)(e:SE P ct)(p:c7):SX P ct where
 bA:= .AugAssign (.Attribute o.bA (nm x) p') op e.bA p
 run:=λ σ K=>o.run σ λ ov aI=>Pc P ov x aI.mem λ a=>e.run aI λ b aU=>zB op a b aU λ r dz=>MT P ov x r dz λ qi=>K .d7 qi
 b_:=o.b_&&e.b_
 ok:=λ c F G ρ σ s Kv O R h=>X.qL (X.mono (o.ok (aG c).1 F G ρ σ s _ O R h) λ ov s₁ z=>by
  exact z.u λ dU c6 a aI fG fb dQ va bH=>X.mono (X.any (wn O dQ va (Kv:=λ v σ=>e.run σ λ b aU=>zB op v b aU λ r dz=>MT P a x r dz λ qi=>Kv .d7 qi) bH)) λ v bp z=>z.u λ jn gZ old aU jd jr gJ vo cU=>
   X.mono (e.ok (aG c).2 F jn gZ aU bp _ O gJ cU) λ u fS z=>z.u λ rJ kZ b dz ku kJ lu vb fE=>X.mono (X.any (rV lu (vo.up ku kJ) vb fE)) λ r sY z=>z.u λ SI Nz r' qi Ca Dz pP vr nH=>
    X.any (wV O pP (va.up (jd.trans (ku.trans Ca)) (jr.trans (kJ.trans Dz))) vr nH λ I_ s'' AW k=>PF.d7 (fG.trans (jd.trans (ku.trans Ca))) (fb.trans (jr.trans (kJ.trans Dz))) AW k))
end
noncomputable abbrev nC(bs:ae bX):Obj:=⟨.type "bytearray", .none, .bytearray bs.toArray 0,#[]⟩
theorem eR:Bb "bytearray" "__getitem__" "bytearray.__getitem__":=
 .of (owner:="bytearray") (n:="__getitem__") (by rw[bF,aX]; kernel_rfl) (by decide+kernel) (by decide+kernel) (by decide+kernel)
  (by first|exact .inl (by decide+kernel)|exact .inr (by decide+kernel)) (by rw[ch]; kernel_rfl)
theorem nX:fu table "bytearray.__getitem__"=af b7.«bytearray.__getitem__»:=eJ (by kernel_rfl)
theorem pb(a b:am):hO "bytearray.__getitem__" ⟨[a,b],[]⟩:=by unfold hO; kernel_rfl
theorem jz:Bb "bytearray" "__setitem__" "bytearray.__setitem__":=
 .of (owner:="bytearray") (n:="__setitem__") (by rw[bF,aX]; kernel_rfl) (by decide+kernel) (by decide+kernel) (by decide+kernel)
  (by first|exact .inl (by decide+kernel)|exact .inr (by decide+kernel)) (by rw[ch]; kernel_rfl)
theorem nY:fu table "bytearray.__setitem__"=af b7.«bytearray.__setitem__»:=eJ (by kernel_rfl)
theorem pd(a b c:am):hO "bytearray.__setitem__" ⟨[a,b,c],[]⟩:=by unfold hO; kernel_rfl
theorem qe:Bb "bytearray" "append" "bytearray.append":=
 .of (owner:="bytearray") (n:="append") (by rw[bF,aX]; kernel_rfl) (by decide+kernel) (by decide+kernel) (by decide+kernel)
  (by first|exact .inl (by decide+kernel)|exact .inr (by decide+kernel)) (by rw[ch]; kernel_rfl)
theorem uN:fu table "bytearray.append"=af b7.«bytearray.append»:=eJ (by kernel_rfl)
theorem vT(a b:am):hO "bytearray.append" ⟨[a,b],[]⟩:=by unfold hO; kernel_rfl
theorem xf:rH (.builtin "bytearray.append")=pure (.type "method_descriptor"):=by show builtinType _=_; rw[uH]; kernel_rfl
theorem uv:Bb "bytearray" "pop" "bytearray.pop":=
 .of (owner:="bytearray") (n:="pop") (by rw[bF,aX]; kernel_rfl) (by decide+kernel) (by decide+kernel) (by decide+kernel)
  (by first|exact .inl (by decide+kernel)|exact .inr (by decide+kernel)) (by rw[ch]; kernel_rfl)
theorem zL:fu table "bytearray.pop"=af b7.«bytearray.pop»:=eJ (by kernel_rfl)
theorem Bx(a:am):hO "bytearray.pop" ⟨[a],[]⟩:=by unfold hO; kernel_rfl
theorem Ds:rH (.builtin "bytearray.pop")=pure (.type "method_descriptor"):=by show builtinType _=_; rw[uH]; kernel_rfl
theorem x3:PlainAttrs "bytearray":=
 ⟨⟨"bytearray.__getattribute__",by rw[bF,aX]; kernel_rfl,by decide+kernel⟩,by rw[bF,aX]; kernel_rfl⟩
namespace X
theorem rO{J:aC}{prog:aK}{w:bw}{A:bn}{s:ar}{T:cR}{name:bM}{id:cR}{b:b7}{self:am}{rest:ae am}{Q:am->ar->Prop}(h:Bb T name id)(hT:s.TypeIs self T)
  (hb:fu table id=af b) (ok:CR (.builtin id ⟨self::rest,[]⟩)=true)
  (hc:cK J (aE prog w) A.in1 (b ⟨self::rest,[]⟩) (λ fin s'=>∃v,fin= .done (.ret v)/\Q v s') s) (ha:hO id ⟨self::rest,[]⟩):
  cK J (aE prog w) A (call (.builtin id) (self::rest) []) Q s:=by
 refine calls (tree ?_)
 show cK J _ A.in1 (do iw id ⟨self::rest,[]⟩; qH (.builtin id ⟨self::rest,[]⟩)) _ s
 refine cL (any (h.check _ _ _ _ _ _ _ _ hT ha (ret ⟨kO h.plain _,ok,tree ?_⟩)))
 rw[ew h.plain]
 show cK J _ A.in1 (match fu table id with|some b=>b ⟨self::rest,[]⟩|none=>AT ((DU id "#data").getD id)) _ s
 rw[hb]
 exact mono hc λ fin s' ⟨v,e,q⟩=>by rw[e]; exact q
end X
section
variable{prog:aK}{w:bw}{A:bn}{s:ar}{a:au}{bs:ae bX}
theorem c9(h:s.heap.get? a=af (nC bs)):s.TypeIs (.ref a) "bytearray":=⟨_,h,rfl⟩
theorem jL{M:ir}{Q:bD bX->ar->Prop}(h:s.heap.get? a=af (nC bs))(q:Q bs.toArray s):aH M A (Builtin.Bytes.payload (.ref a)) Q dq s:=by
 unfold Builtin.Bytes.payload Builtin.Bytes.payload?
 exact aj (aj (iQ h (aw (aw q))))
theorem fits{k:Int}(h0:0<=k)(hf:k < 2 ^ 63):Builtin.Bytes.fitsIndex k=true:=by
 unfold Builtin.Bytes.fitsIndex
 rw[jf,cW,cW]
 omega
theorem ri{M:ir}{k:Int}{t:j_}{Q:aq Int->ar->Prop}(h0:0<=k)(hf:k < 2 ^ 63)(q:Q (af k) s):aH M A (Builtin.Bytes.subscript? (.int k t)) Q dq s:=by
 unfold Builtin.Bytes.subscript?
 refine aj (cV (T:="int") (mu s k t) Jj ?_)
 rw[bC (by simp)]
 refine aj (bu (a:=k) rfl ?_)
 dsimp only
 rw[fits h0 hf]
 exact aw q
theorem seqIndex_of{k:Int}{n:Nat}(h0:0<=k)(hk:k < n):jW k n=af k.toNat:=by
 have h1:¬k < 0:=by omega
 unfold jW
 simp only[bC h1]
 rw[dj (by rw[jf,cW,cW]; exact⟨h0,hk⟩)]
theorem J8{k:Int}{t:j_}{Q:am->ar->Prop}(h:s.heap.get? a=af (nC bs))(h0:0<=k)(hf:k < 2 ^ 63)(hk:k < bs.length)
  (q:Q (.int (bs.getD k.toNat 0).toNat s.toks) {s with toks:=s.toks+1}):aH (aE prog w) A (getItem (.ref a) (.int k t)) Q dq s:=by
 unfold getItem
 try with_reducible refine bS ?_
 first|refine aj (aw ?_)|skip
 refine aj (lF (c9 h) (by decide) ?_)
 refine aj (c_ (name:=bR "__getitem__") (c9 h) eR
  (cA eR (c9 h) nX ?_ (pb _ _)))
 unfold b7.«bytearray.__getitem__»
 refine aj (bu (a:=(.ref a,[.int k t])) rfl ?_)
 dsimp only
 refine aj (ri h0 hf ?_)
 dsimp only
 refine aj (jL h ?_)
 have e:(jW k bs.toArray.size).bind (λ x=>bs.toArray[x]?)=af (bs.getD k.toNat 0):=by
  have hl:k.toNat < bs.length:=by omega
  rw[cS,seqIndex_of h0 hk,lh,qm,f7,d8 hl]; rfl
 rw[e]
 exact aj (li (aw ⟨_,rfl,aw q⟩))
theorem F8{t:j_}{Q:am->ar->Prop}(h:s.heap.get? a=af (nC bs))(hk:bs≠[])
  (q:Q (.int (bs.getLastD 0).toNat s.toks) {s with toks:=s.toks+1}):aH (aE prog w) A (getItem (.ref a) (.int (-1) t)) Q dq s:=by
 unfold getItem
 try with_reducible refine bS ?_
 first|refine aj (aw ?_)|skip
 refine aj (lF (c9 h) (by decide) ?_)
 refine aj (c_ (name:=bR "__getitem__") (c9 h) eR
  (cA eR (c9 h) nX ?_ (pb _ _)))
 unfold b7.«bytearray.__getitem__»
 refine aj (bu (a:=(.ref a,[.int (-1) t])) rfl ?_)
 dsimp only
 have sub:∀{Q:aq Int->ar->Prop},Q (af (-1)) s->aH (aE prog w) A.in1 (Builtin.Bytes.subscript? (.int (-1) t)) Q dq s:=λ q=>by
  unfold Builtin.Bytes.subscript?
  refine aj (cV (T:="int") (mu s (-1) t) Jj ?_)
  rw[bC (by simp)]
  refine aj (bu (a:=-1) rfl ?_)
  exact aw q
 refine aj (sub ?_)
 dsimp only
 refine aj (jL h ?_)
 have hl:0 < bs.length:=fQ.mpr hk
 have e:(jW (-1) bs.toArray.size).bind (λ x=>bs.toArray[x]?)=af (bs.getLastD 0):=by
  have:jW (-1) bs.length=af (bs.length - 1):=by
   have h1:(-1:Int) < 0:=by decide
   unfold jW
   simp only[dj h1]
   rw[dj (by rw[jf,cW,cW]; omega)]
   congr 1; omega
  rw[cS,this,lh,qm,← nM,nN]
  cases q:bs.getLast? with
  |none=>exact bt (zh.mp q) hk
  |some b=>rfl
 rw[e]
 exact aj (li (aw ⟨_,rfl,aw q⟩))
theorem qh{M:ir}{f:bD bX->bD bX}{cs:ae bX}{Q:e7->ar->Prop}(h:s.heap.get? a=af (nC bs))(e:f bs.toArray=cs.toArray)(hz:cs.length<=f6)
  (q:∀h',h'.get? a=af (nC cs)->(∀b o,b≠a->s.heap.get? b=af o->h'.get? b=af o)->Q () {s with heap:=h'}):aH M A (Builtin.Bytes.write (.ref a) f) Q dq s:=by
 show aH M A (updateBytearray a f) Q dq s
 unfold updateBytearray
 refine aj (iQ h ?_)
 dsimp only
 have em:Obj.mapBytearray f (nC bs)=nC cs:=by show(⟨_,_, .bytearray (f bs.toArray) 0,_⟩:Obj)=_; rw[e]
 have hh:=dI (Obj.mapBytearray f) h (by rw[em]; rfl)
 rw[em] at hh
 refine aj (wpAny_update h (wpAny_lookBehind hh ?_ (q _ hh λ b o n e=>(dB ..).extBut b o n e)))
 show(if cs.toArray.size > f6 then af "bytearray:memory" else none)=none
 rw[bC (by rw[cS]; omega)]
theorem nF{M:ir}{k:Int}{t:j_}{Q:bX->ar->Prop}(h0:0<=k)(hf:k < 256)(q:Q (eC k.toNat) s):aH M A (Builtin.Bytes.byteValue (.int k t)) Q dq s:=by
 unfold Builtin.Bytes.byteValue
 refine aj (bu (a:=k) rfl ?_)
 dsimp only
 rw[bC (by rw[Bool.or_eq_true,cW,cW]; omega)]
 exact aw q
theorem J_{k v:Int}{t u:j_}{Q:e7->ar->Prop}(h:s.heap.get? a=af (nC bs))(h0:0<=k)(hf:k < 2 ^ 63)(hk:k < bs.length)(v0:0<=v)(v1:v < 256)(hz:bs.length<=f6)
  (q:∀h',h'.get? a=af (nC (bs.set k.toNat (eC v.toNat)))->(∀b o,b≠a->s.heap.get? b=af o->h'.get? b=af o)->Q () {s with heap:=h'}):
  aH (aE prog w) A (eP (.ref a) (.int k t) (.int v u)) Q dq s:=by
 unfold eP
 try with_reducible refine bS ?_
 first|refine aj (aw ?_)|skip
 refine aj (lF (c9 h) (by decide) ?_)
 refine aj (c_ (name:=bR "__setitem__") (c9 h) jz
  (cA jz (c9 h) nY ?_ (pd _ _ _)))
 unfold b7.«bytearray.__setitem__»
 show aH _ _ (Builtin.Bytes.subscript? (.int k t)>>=_) _ _ s
 refine aj (ri h0 hf ?_)
 dsimp only
 refine aj (nF v0 v1 ?_)
 refine aj (jL h ?_)
 rw[cS,seqIndex_of h0 hk]
 dsimp only
 refine aj (qh h (cs:=bs.set k.toNat (eC v.toNat)) (by simp) (by rw[iI]; exact hz) λ h' e1 e2=>?_)
 exact aj (aw (aw ⟨_,rfl,aw (q h' e1 e2)⟩))
end
section
variable{J:aC}{prog:aK}{w:bw}{A:bn}{s:ar}{a:au}{bs:ae bX}
theorem wI{id x:cR}{args:Args}(ok:CR (.builtin id args)=true)(h:rN.contains x=true):¬id=x:=λ e=>ay ((nb ok).symm.trans ((ah rN.contains e).trans h))
theorem P1{id:cR}{args:Args}(ok:CR (.builtin id args)=true):Builtin.Bytes.decodersThatHold.contains id=false:=(Bool.or_eq_false_iff.mp (List.contains_append.symm.trans (nb ok))).2
theorem BY{v:am}{id:cR}{pos:ae am}{kw:ae (bM×am)}{p:c7}(ok:CR (.builtin id ⟨pos,kw⟩)=true):(Builtin.Bytes.exported.match_1 (motive:=λ aa=>aC) (DE id ⟨pos,kw⟩,p) (λ u aa aa aa=>Builtin.Bytes.sameRef u v) (λ u aa aa aa=>Builtin.Bytes.sameRef u v) (λ aa u aa aa aa=>Builtin.Bytes.sameRef u v) (λ u aa aa aa=>Builtin.Bytes.sameRef u v)
  (λ aa aa held aa aa=>held.any (Builtin.Bytes.sameRef v)) (λ id u aa aa aa=>Builtin.Bytes.sameRef u v&&Builtin.Bytes.decodersThatHold.contains id) λ aa=>false)=false:=by
 delta Builtin.Bytes.exported.match_1 Builtin.Bytes.exported._sparseCasesOn_1
 dsimp only
 rw[dif_neg (wI ok (by decide+kernel)),dif_neg (wI ok (by decide+kernel)),dif_neg (wI ok (by decide+kernel)),dif_neg (wI ok (by decide+kernel)),dif_neg (wI ok (by decide+kernel))]
 rcases pos with _|⟨u,r⟩
 ·rfl
 ·exact(ah (Builtin.Bytes.sameRef u v&&·) (P1 ok)).trans (mX _)
theorem uh{M:ir}{v:am}{Q:aC->ar->Prop}(q:Q false s):cK true M A (Builtin.Bytes.exported v) Q s:=λ Γ p NG hc=>by
 unfold Builtin.Bytes.exported
 show Q _ s
 refine Eq.mp (ah (λ b=>Q b s) (List.any_eq_false.mpr ?_).symm) q
 intro x hx
 have ok:CR x.1=true:=(bW.mp hx).elim (λ e=>e▸(hc rfl).1) λ hx=>(hc rfl).2 x hx
 rcases x with⟨c,pp⟩
 rcases c
 case builtin id args=>rcases args; exact λ z=>ay ((BY ok).symm.trans z)
 all_goals exact ay
end
section
variable{prog:aK}{w:bw}{A:bn}{s:ar}{a:au}{bs:ae bX}
theorem y4{M:ir}{Q:e7->ar->Prop}(h:s.heap.get? a=af (nC bs))(q:Q () s):cK true M A (Builtin.Bytes.checkResize (.ref a)) Q s:=by
 unfold Builtin.Bytes.checkResize
 have e:cK true M A (Builtin.Bytes.exported (.ref a)<||>(do return (← Builtin.Bytes.exportsOf (.ref a)) > 0)) (λ b s'=>b=false/\s'=s) s:=by
  refine X.cL (uh ?_)
  refine X.any ?_
  show aH M A (Builtin.Bytes.exportsOf (.ref a)>>=λ n=>pure (decide (n > 0))) _ _ s
  unfold Builtin.Bytes.exportsOf
  exact aj (aj (iQ h (aw (aw ⟨rfl,rfl⟩))))
 refine X.cL (X.mono e λ b s' z=>?_)
 obtain⟨rfl,rfl⟩:=z
 exact X.ret q
theorem H6{k:Int}{t:j_}{Q:am->ar->Prop}(h:s.heap.get? a=af (nC bs))(h0:0<=k)(hf:k < 256)(hz:bs.length < f6)
  (q:∀h',h'.get? a=af (nC (bs++[eC k.toNat]))->(∀b o,b≠a->s.heap.get? b=af o->h'.get? b=af o)->Q .none {s with heap:=h'}):
  cK true (aE prog w) A (call (.builtin "bytearray.append") [.ref a, .int k t] []) Q s:=by
 refine X.rO qe (c9 h) uN (show(!rN.contains "bytearray.append")=true from by decide+kernel) ?_ (vT _ _)
 unfold b7.«bytearray.append»
 refine X.cL (X.WX (a:=(.ref a, .int k t)) rfl ?_)
 dsimp only
 refine X.cL (X.any (nF h0 hf ?_))
 refine X.cL (y4 h ?_)
 refine X.cL (X.any (qh h (cs:=bs++[eC k.toNat]) (by simp) (by rw[bh]; show _+1<=_; omega) λ h' e1 e2=>?_))
 exact X.ret ⟨_,rfl,q h' e1 e2⟩
theorem SZ{Q:am->ar->Prop}(h:s.heap.get? a=af (nC bs))(Iv:bs≠[])(hz:bs.length<=f6)
  (q:∀h' i t,h'.get? a=af (nC bs.dropLast)->(∀b o,b≠a->s.heap.get? b=af o->h'.get? b=af o)->Q (.int i t) {s with heap:=h',toks:=s.toks+1}):
  cK true (aE prog w) A (call (.builtin "bytearray.pop") [.ref a] []) Q s:=by
 refine X.rO uv (c9 h) zL (show(!rN.contains "bytearray.pop")=true from by decide+kernel) ?_ (Bx _)
 unfold b7.«bytearray.pop»
 refine X.cL (X.WX (a:=(.ref a,[])) rfl ?_)
 dsimp only
 refine X.cL (X.ret ?_)
 refine X.cL (X.any (jL h ?_))
 have hl:0 < bs.length:=fQ.mpr Iv
 rw[bC (by simp [Iv])]
 have e:(jW (-1) bs.toArray.size).bind (λ k=>bs.toArray[k]?.map (k,·))=af (bs.length - 1,bs.getLastD 0):=by
  have:jW (-1) bs.length=af (bs.length - 1):=by
   have h1:(-1:Int) < 0:=by decide
   unfold jW
   simp only[dj h1]
   rw[dj (by rw[jf,cW,cW]; omega)]
   congr 1; omega
  rw[cS,this,lh,qm,← nM,nN]
  cases q:bs.getLast? with
  |none=>exact bt (zh.mp q) Iv
  |some b=>rfl
 rw[e]
 dsimp only
 refine X.cL (y4 h ?_)
 refine X.cL (X.any (qh h (cs:=bs.dropLast) (by simp [List.eraseIdx_length_sub_one]) (by rw[FE]; omega) λ h' e1 e2=>?_))
 exact X.cL (X.any (li (X.ret ⟨_,rfl,q h' _ _ e1 e2⟩)))
end
namespace X
section
variable{J:aC}{prog:aK}{w:bw}{A:bn}{C:au}{R:iP->ar->Prop}{h:Heap}{g:bD d6}{d:Drawn}{t:Nat}{os:OsState}
theorem call_builtin_at{s:ar}{id:cR}{args:Args}{b:b7}(hq:(DE id args).quiet=true)(ok:CR (.builtin id args)=true)(hb:fu table id=af b)
  (hc:cK J (aE prog w) A.in1 (iw id args) (λ aa s₁=>cK J (aE prog w) (A.under (.builtin id args)) (b args)
   (λ fin s'=>match fin with | .done f=>R (.ok f) s' | .again c'=>c'.quiet=true/\CR c'=true/\dO J (aE prog w) A c' R s') s₁) s):dO J (aE prog w) A (.call (.builtin id) args) R s:=by
 refine tree ?_
 show cK J _ A.in1 (do iw id args; qH (.builtin id args)) _ s
 refine cL (mono hc λ aa s₁ bH=>ret ⟨hq,ok,tree ?_⟩)
 show cK J _ _ (match fu table id with|some b=>b args|none=>AT ((DU id "#data").getD id)) _ _
 rw[hb]
 exact bH
theorem um(args:Args):CR (.builtin "type.__call__" args)=true:=by show(!rN.contains "type.__call__")=true; decide+kernel
theorem make{rest:ae am}{init:am}(Y:Makes (aE prog w) h C)(hi:Looks (aE prog w) h (hU (.ref C) "__init__") (af init))
  (hb:∀self,Looks (aE prog w) h (bindSpecial init self) (init,[self])) (Iv:(af init !=af (Value.builtin "object.__init__"))=true)
  (hq:dO J (aE prog w) (A.under (.builtin "type.__call__" ⟨.ref C::rest,[]⟩)) (.call init ⟨.ref (h.objs.size+1)::rest,[]⟩)
   (λ r s'=>match r with | .ok (.ret v)=>v= .none/\R (.ok (.ret (.ref (h.objs.size+1)))) s'|_=>False) ⟨(h.push qG).push (ge C h.objs.size),g,d,t,os⟩):
  dO J (aE prog w) A (.call (.ref C) ⟨rest,[]⟩) R ⟨h,g,d,t,os⟩:=by
 have Y':=Y
 obtain⟨⟨oc,od,cd,sl,hC,e1,e2,e4⟩,made,base,self,top,call,typ⟩:=Y
 refine tree ?_
 show cK J _ _ (DH (.ref C) _) _ _
 refine cL (any (iQ hC ?_))
 show cK J _ _ (FK (.ref C) _) _ _
 unfold FK
 refine cL (any (call.at ?_))
 dsimp only
 rw[tc_bind]
 refine cL (ret (cL (ret ?_)))
 refine ret (a:=Fin.again (.call (.builtin "type.__call__") ⟨.ref C::rest,[]⟩)) ⟨rfl,rfl,?_⟩
 refine call_builtin_at (Jg _ (by decide+kernel)) (um _) entry_typeCall (any (check_slot tc_kind tc_split typ (tc_args _ _ _) ?_))
 unfold b7.«type.__call__»
 have hm:Looks (aE prog w) h (mroOf (.ref C)) cd.mro:=((Looks.ld (part:=none) hC).andThen .now).andThen .now
 dsimp only
 rw[bC (show ¬((dp C==cQ "type")=true) from aV)]
 refine cL (any (hm.here ?_))
 rw[e4,bC aV]
 refine cL (any (made.here ?_))
 dsimp only
 refine cL (ret (cL (holds (any (vI (new_K Y' hi (.inl Iv) ?_))))))
 dsimp only
 have k:∀b o,h.get? b=af o->((h.push qG).push (ge C h.objs.size)).get? b=af o:=λ b o e=>aA _ (aA _ e)
 have hx:((h.push qG).push (ge C h.objs.size)).get? (h.objs.size+1)=af (ge C h.objs.size):=by heap_get
 have t1:Looks (aE prog w) ((h.push qG).push (ge C h.objs.size)) (rH (.ref (h.objs.size+1))) (.ref C):=(Looks.ld hx).andThen .now
 have s1:=self.keeps k
 have i1:=hi.keeps k
 have b1:=(hb (.ref (h.objs.size+1))).keeps k
 refine cL (any ?_)
 unfold rD
 refine aj (t1.here ?_)
 refine s1.here ?_
 rw[iK,bC aV]
 refine cL (holds ?_)
 unfold callSpecial? t2
 refine cL (cL (any (t1.here (any (i1.here ?_)))))
 dsimp only
 refine holds (cL (any (b1.here ?_)))
 dsimp only
 refine cL (calls (eh hq λ r s' z=>?_))
 rcases r with e|(v|_|_|_)<;>first|exact z.elim|skip
 obtain⟨rfl,z⟩:=z
 exact ret (ret z)
end
end X
theorem L5:mroOf (.type "bytearray")=pure [.type "bytearray", .type "object"]:=by rw[mroOf_type]; kernel_rfl
theorem xZ:hU (.type "bytearray") "__new__"=pure (af (.builtin "bytearray.__new__")):=by rw[bF,aX]; kernel_rfl
theorem Ar:Bb "bytearray" "__init__" "bytearray.__init__":=
 .of (owner:="bytearray") (n:="__init__") (by rw[bF,aX]; kernel_rfl) (by decide+kernel) (by decide+kernel) (by decide+kernel)
  (by first|exact .inl (by decide+kernel)|exact .inr (by decide+kernel)) (by rw[ch]; kernel_rfl)
theorem yu:TypeCalled "bytearray" "bytearray.__new__" "bytearray.__init__":=
 ⟨by decide+kernel,by decide+kernel,⟨_,_,L5⟩,madeBy_type L5 xZ (by decide+kernel),by decide+kernel,by rw[ch]; kernel_rfl,Ar⟩
theorem Dr:checkTypeCall "bytearray" ⟨[],[]⟩=pure ():=by kernel_rfl
theorem EZ:iw "bytearray.__new__" ⟨[.type "bytearray"],[]⟩=pure ():=by kernel_rfl
theorem zK:fu table "bytearray.__new__"=af b7.«list.__new__»:=
 DR (id':="list.__new__") (by rw[fastTable_eq_tree]; kernel_rfl) (by decide+kernel) (by decide+kernel) (by rw[fastTable_eq_tree]; kernel_rfl)
theorem sN:plainId "bytearray.__new__"=true:=by decide+kernel
theorem xV:fu table "bytearray.__init__"=af b7.«bytearray.__init__»:=eJ (by kernel_rfl)
theorem zu(a:am):hO "bytearray.__init__" ⟨[a],[]⟩:=by unfold hO; kernel_rfl
theorem E5(args:Args):CR (.builtin "bytearray.__init__" args)=true:=by show(!rN.contains "bytearray.__init__")=true; decide+kernel
set_option maxRecDepth 1000000 in
set_option maxHeartbeats 4000000 in
theorem Am:("bytearray.__new__".splitOn ".__new__").headD ""="bytearray":=by simp+decide [String.splitOn,String.splitOnAux]
theorem Dn:isSubtype (.type "bytearray") (.type "bytearray")=pure true:=by rw[ch]; kernel_rfl
theorem vX:hU (.type "bytearray") "__release_buffer__"=pure (af (.builtin "bytearray.__release_buffer__")):=by rw[bF,aX]; kernel_rfl
section
variable{prog:aK}{w:bw}{A:bn}{s:ar}
theorem BN{Q₁:am->ar->Prop}
  (h:Q₁ (.ref s.heap.objs.size) {s with heap:=s.heap.push {cls:= .type "bytearray",data:= .bytearray #[]}}):
  codeAny (aE prog w) A (.call (.builtin "bytearray.__new__") ⟨[.type "bytearray"],[]⟩) (wants Q₁ dq) s:=by
 refine Bd ?_
 show aH _ A.in1 (do iw "bytearray.__new__" ⟨[.type "bytearray"],[]⟩; qH (.builtin "bytearray.__new__" ⟨[.type "bytearray"],[]⟩)) _ _ s
 refine aj (bu EZ (aw ⟨kO sN _,codeAny_builtin_stack zK rfl λ p st=>?_⟩))
 rw[ew sN _]
 have zW:=Dn
 have abj:=Am
 obtain⟨hp,g,d,tk,os⟩:=s
 dsimp only
 rw[abj]
 wp_walk
 exact h
theorem Op{M:ir}{A:bn}{a:au}{Q:PySem.Fin->ar->Prop}(h:s.heap.get? a=af (nC []))
  (q:∀h',h'.get? a=af (nC [])->(∀b o,b≠a->s.heap.get? b=af o->h'.get? b=af o)->Q (.done (.ret .none)) {s with heap:=h'}):
  cK true M A (b7.«bytearray.__init__» ⟨[.ref a],[]⟩) Q s:=by
 have e0:Looks M s.heap (Builtin.Bytes.ownRelease (.ref a)) false:=by
  have t0:Looks M s.heap (rH (.ref a)) (.type "bytearray"):=(Looks.ld h).andThen .now
  unfold Builtin.Bytes.ownRelease Builtin.Bytes.slotIsOwn t2 rD
  refine Looks.andThen (show Looks M s.heap _ true from ?_) .now
  refine Looks.andThen (t0.andThen (Looks.of_pure vX)) ?_
  dsimp only
  rw[bC (by decide+kernel)]
  refine t0.andThen (Looks.of_pure ?_)
  rw[ch]; kernel_rfl
 have bind:Builtin.Bytes.bindOptional "bytearray.__init__" "bytearray" ["source","encoding","errors"] [] []=pure [none,none,none]:=by kernel_rfl
 have e:cK true M A (Builtin.Bytes.exported (.ref a)<||>(do return (← Builtin.Bytes.exportsOf (.ref a)) > 0)) (λ b s'=>b=false/\s'=s) s:=by
  refine X.cL (uh ?_)
  refine X.any ?_
  show aH M A (Builtin.Bytes.exportsOf (.ref a)>>=λ n=>pure (decide (n > 0))) _ _ s
  unfold Builtin.Bytes.exportsOf
  exact aj (aj (iQ h (aw (aw ⟨rfl,rfl⟩))))
 unfold b7.«bytearray.__init__»
 dsimp only
 refine X.cL (X.any (e0.here ?_))
 rw[bC aV,bind]
 refine X.cL (X.ret ?_)
 refine X.cL (X.any (aw ?_))
 refine X.cL (X.any (aw ?_))
 refine X.cL (X.mono e λ b s' z=>?_)
 obtain⟨rfl,rfl⟩:=z
 rw[bC aV]
 refine X.cL (X.any (qh h (cs:=[]) rfl (ot _) λ h' e1 e2=>?_))
 exact X.cL (X.any (aw (X.ret (q h' e1 e2))))
namespace X
theorem Kj{J:aC}{R:iP->ar->Prop}{id:cR}{args:Args}{b:b7}(hb:fu table id=af b)
  (h:cK J (aE prog w) (A.under (.builtin id args)) (b args) (λ fin s'=>match fin with | .done f=>R (.ok f) s' | .again c'=>c'.quiet=true/\CR c'=true/\dO J (aE prog w) A c' R s') s):
  dO J (aE prog w) A (.builtin id args) R s:=by
 refine tree ?_
 show cK J _ _ (match fu table id with|some b=>b args|none=>AT ((DU id "#data").getD id)) _ _
 rw[hb]; exact h
theorem wO(args:Args):(DE "type.__call__" args).quiet=true:=Jg _ (by decide+kernel)
theorem yt{J:aC}{T newId EH:cR}{args:ae am}{Q Q₁:am->ar->Prop}(ft:TypeCalled T newId EH)
  (hct:checkTypeCall T ⟨args,[]⟩=pure ())
  (uO:∀A',codeAny (aE prog w) A' (.call (.builtin newId) ⟨.type T::args,[]⟩) (wants Q₁ dq) s)
  (Xs:∀obj s₁,Q₁ obj s₁->s₁.TypeIs obj T/\cK J (aE prog w) A.in1 (call (.builtin EH) (obj::args) []) (λ v s'=>v= .none/\Q obj s') s₁):
  cK J (aE prog w) A (call (.type T) args []) Q s:=by
 obtain⟨c,tl,abe⟩:=ft.mro
 have Xr:=ft.made
 have zW:=ft.sub
 have h1:=ft.notType
 have h2:=ft.canCreate
 refine calls (tree ?_)
 show cK J _ _ (DH (.type T) _) _ _
 refine ret (a:=Fin.again (.builtin "type.__call__" ⟨.type T::args,[]⟩)) ⟨wO _,um _,Kj F.entry_type_call ?_⟩
 rw[Around.under_plain (weight_type_call_type T args []) rfl]
 unfold b7.«type.__call__»
 dsimp only
 rw[bC (by rw[h1]; exact aV)]
 rw[bC (by rw[h2]; exact aV),hct]
 refine cL (ret ?_)
 rw[abe]
 refine cL (ret ?_)
 rw[bC (by simp),Xr]
 refine cL (ret (cL (ret (cL (holds (any (vI (codeAny_mono (uO _) λ r s₁ z=>?_))))))))
 rcases r with e|(obj|_|_|_)<;>first|exact z.elim|skip
 rename_i obj
 obtain⟨hT,hn⟩:=Xs obj s₁ z
 refine cL (any (eK hT zW ?_))
 rw[iK,bC aV]
 refine cL (holds ?_)
 unfold callSpecial?
 refine cL (any (cV hT ft.init.lookup ?_))
 dsimp only
 refine holds ?_
 rw[ft.init.bind]
 refine cL (ret (cL ?_))
 show cK J _ _ (call (.builtin EH) (obj::args) []) _ _
 refine mono hn λ v s' z=>?_
 obtain⟨e,q⟩:=z
 subst e
 exact ret (ret q)
theorem Ee{Q:am->ar->Prop}(q:∀h',h'.get? s.heap.objs.size=af (nC [])->(∀b o,s.heap.get? b=af o->h'.get? b=af o)->Q (.ref s.heap.objs.size) {s with heap:=h'}):
  cK true (aE prog w) A (call (.type "bytearray") [] []) Q s:=by
 refine yt (Q₁:=λ v s'=>v= .ref s.heap.objs.size/\s'={s with heap:=s.heap.push (nC [])}) yu Dr (λ A'=>BN ⟨rfl,rfl⟩) λ obj s₁ z=>?_
 obtain⟨rfl,rfl⟩:=z
 have hh:(s.heap.push (nC [])).get? s.heap.objs.size=af (nC []):=aN _ rfl
 refine⟨⟨_,hh,rfl⟩,rO yu.init ⟨_,hh,rfl⟩ xV (E5 _) (Op hh λ h' e1 e2=>?_) (zu _)⟩
 refine⟨.none,rfl,rfl,q h' e1 λ b o e=>e2 b o ?_ (aA _ e)⟩
 exact dN (b8 e)
end X
end
theorem BA:hU (.type "bytearray") "__bytes__"=pure none:=by rw[bF,aX]; kernel_rfl
theorem BB:hU (.type "bytearray") "__index__"=pure none:=by rw[bF,aX]; kernel_rfl
theorem tz:hU (.type "bytearray") "__buffer__"=pure (af (.builtin "bytearray.__buffer__")):=by rw[bF,aX]; kernel_rfl
section
variable{prog:aK}{w:bw}{A:bn}{s:ar}{a:au}{bs:ae bX}
theorem xO{M:ir}(h:s.heap.get? a=af (nC bs)):Looks M s.heap (Builtin.Bytes.ownRelease (.ref a)) false:=by
 have t0:Looks M s.heap (rH (.ref a)) (.type "bytearray"):=(Looks.ld h).andThen .now
 unfold Builtin.Bytes.ownRelease Builtin.Bytes.slotIsOwn t2 rD
 refine Looks.andThen (show Looks M s.heap _ true from ?_) .now
 refine Looks.andThen (t0.andThen (Looks.of_pure vX)) ?_
 dsimp only
 rw[bC (by decide+kernel)]
 refine t0.andThen (Looks.of_pure ?_)
 rw[ch]; kernel_rfl
theorem xN{M:ir}(h:s.heap.get? a=af (nC bs)):Looks M s.heap (Builtin.Bytes.slotIsOwn (.ref a) "__buffer__") true:=by
 have t0:Looks M s.heap (rH (.ref a)) (.type "bytearray"):=(Looks.ld h).andThen .now
 unfold Builtin.Bytes.slotIsOwn t2 rD
 refine Looks.andThen (t0.andThen (Looks.of_pure tz)) ?_
 dsimp only
 rw[bC (by decide+kernel)]
 refine t0.andThen (Looks.of_pure ?_)
 rw[ch]; kernel_rfl
theorem yo{M:ir}{id:cR}{full:aC}{Q:aq (bD bX)->ar->Prop}(h:s.heap.get? a=af (nC bs))(q:Q (af bs.toArray) s):aH M A (Builtin.Bytes.buffer? id (.ref a) full) Q dq s:=by
 unfold Builtin.Bytes.buffer?
 refine aj (cV (c9 h) tz ?_)
 dsimp only
 refine aj ((xN h).here ?_)
 rw[iK,bC aV]
 refine aj (cV (c9 h) tz ?_)
 refine aj ((xO h).here ?_)
 rw[bC aV]
 exact aj (jL h (aw q))
theorem Ia{Q:am->ar->Prop}(h:s.heap.get? a=af (nC bs))(hz:bs.length<=f6)
  (q:Q (.bytes bs.toArray s.toks) {s with toks:=s.toks+1}):
  codeAny (aE prog w) A (.call (.builtin "bytes.__new__") ⟨[.type "bytes", .ref a],[]⟩) (wants Q dq) s:=by
 refine Bd ?_
 show aH _ A.in1 (do iw "bytes.__new__" ⟨[.type "bytes", .ref a],[]⟩; qH (.builtin "bytes.__new__" ⟨[.type "bytes", .ref a],[]⟩)) _ _ s
 refine aj (bu (F.bm_newCall _) (aw ⟨kO F.bm_plain _,kV F.bm_entry ?_⟩))
 rw[ew F.bm_plain _]
 have hT:=c9 h
 unfold b7.«bytes.__new__»
 refine aj (bu (a:=true) rfl ?_)
 refine AP rfl ?_
 refine aj (bu F.bm_sub ?_)
 refine AP rfl ?_
 refine aj (bu (F.bm_bind _) ?_)
 refine aj (bu (a:=()) rfl ?_)
 refine aj (bu (a:=()) rfl ?_)
 refine AP rfl ?_
 refine aj (cV hT BA ?_)
 refine aj (aj ?_)
 show aH _ _ (load a>>=_) _ _ _
 refine aj (iQ h ?_)
 refine aw (aw ?_)
 refine AP rfl ?_
 refine aj (cV hT BB ?_)
 refine bm_if_true rfl ?_
 first
  |show aH _ _ (Builtin.Bytes.buffer? "bytes.__new__" (.ref a) true>>=_) _ _ _
  |(refine aj ?_; show aH _ _ (Builtin.Bytes.buffer? "bytes.__new__" (.ref a) true>>=_) _ _ _)
 refine aj (yo h ?_)
 dsimp only
 refine aj (mv (aj (wpAny_mkBytes ?_ (by rw[cS]; exact hz))))
 show aH _ _ (if (cQ "bytes"==cQ "bytes")=true then _ else _) _ _ _
 refine bm_if_true (by decide) ?_
 first
   |exact aw q
   |exact aw (aw q)
   |exact aj (aw (aw q))
theorem xR{Q:am->ar->Prop}(h:s.heap.get? a=af (nC bs))(hz:bs.length<=f6)
  (q:Q (.bytes bs.toArray s.toks) {s with toks:=s.toks+1}):aH (aE prog w) A (call (.type "bytes") [.ref a]) Q dq s:=by
 refine DP (Q₁:=λ obj s₁=>s₁.TypeIs obj "bytes"/\Q obj s₁) F.bm_called (F.bm_typeCall _) F.entry_object_init
  (Ia h hz ⟨gB _ _ _,q⟩) λ obj s₁ bH=>?_
 exact⟨bH.1,F.args_object_init_2 obj _,object_init_meets F.bm_called.init.lookup F.bm_called.made (by decide) prog w A.in1 _ s₁ ⟨bH.1,rfl,bH.2⟩⟩
end
theorem rh:Bb "bytes" "count" "bytes.count":=
 .of (owner:="bytes") (n:="count") (by rw[bF,aX]; kernel_rfl) (by decide+kernel) (by decide+kernel) (by decide+kernel)
  (by first|exact .inl (by decide+kernel)|exact .inr (by decide+kernel)) (by rw[ch]; kernel_rfl)
theorem we:fu table "bytes.count"=af b7.«bytes.count»:=eJ (by kernel_rfl)
theorem xL(a b:am):hO "bytes.count" ⟨[a,b],[]⟩:=by unfold hO; kernel_rfl
theorem x9:rH (.builtin "bytes.count")=pure (.type "method_descriptor"):=by show builtinType _=_; rw[uH]; kernel_rfl
theorem x4:PlainAttrs "bytes":=
 ⟨⟨"bytes.__getattribute__",by rw[bF,aX]; kernel_rfl,by decide+kernel⟩,by rw[bF,aX]; kernel_rfl⟩
theorem Dj:Bb "bytes" "__len__" "bytes.__len__":=
 .of (owner:="bytes") (n:="__len__") (by rw[bF,aX]; kernel_rfl) (by decide+kernel) (by decide+kernel) (by decide+kernel)
  (by first|exact .inl (by decide+kernel)|exact .inr (by decide+kernel)) (by rw[ch]; kernel_rfl)
theorem zM:fu table "bytes.__len__"=af b7.«bytes.__len__»:=eJ (by kernel_rfl)
theorem By(a:am):hO "bytes.__len__" ⟨[a],[]⟩:=by unfold hO; kernel_rfl
theorem uu:Bb "bytearray" "__len__" "bytearray.__len__":=
 .of (owner:="bytearray") (n:="__len__") (by rw[bF,aX]; kernel_rfl) (by decide+kernel) (by decide+kernel) (by decide+kernel)
  (by first|exact .inl (by decide+kernel)|exact .inr (by decide+kernel)) (by rw[ch]; kernel_rfl)
theorem zJ:fu table "bytearray.__len__"=af b7.«bytearray.__len__»:=eJ (by kernel_rfl)
theorem Bw(a:am):hO "bytearray.__len__" ⟨[a],[]⟩:=by unfold hO; kernel_rfl
theorem w0:Bb "bytearray" "__ne__" "bytearray.__ne__":=
 .of (owner:="bytearray") (n:="__ne__") (by rw[bF,aX]; kernel_rfl) (by decide+kernel) (by decide+kernel) (by decide+kernel)
  (by first|exact .inl (by decide+kernel)|exact .inr (by decide+kernel)) (by rw[ch]; kernel_rfl)
theorem BW:fu table "bytearray.__ne__"=af b7.«bytearray.__ne__»:=eJ (by kernel_rfl)
theorem D4(a b:am):hO "bytearray.__ne__" ⟨[a,b],[]⟩:=by unfold hO; kernel_rfl
theorem q8:hU (.type "int") "__buffer__"=pure none:=by rw[bF,aX]; kernel_rfl
theorem tA:hU (.type "bytes") "__buffer__"=pure (af (.builtin "bytes.__buffer__")):=by rw[bF,aX]; kernel_rfl
theorem Ed:hU (.type "bytes") "__release_buffer__"=pure none:=by rw[bF,aX]; kernel_rfl
noncomputable def cnt(b:bD bX)(i:Int):Int:=
 if (Builtin.Bytes.window b.size none none).2 - (Builtin.Bytes.window b.size none none).1 < (#[i.toNat.toUInt8]:bD bX).size then 0
 else (Builtin.Bytes.occurrences b #[i.toNat.toUInt8] (Builtin.Bytes.window b.size none none).1.toNat (Builtin.Bytes.window b.size none none).2.toNat).length
section
variable{prog:aK}{w:bw}{A:bn}{s:ar}{a:au}{bs:ae bX}
theorem Ec{M:ir}{A:bn}{id:cR}{i:Int}{u:j_}{full:aC}{Q:aq (bD bX)->ar->Prop}(q:Q none s):aH M A (Builtin.Bytes.buffer? id (.int i u) full) Q dq s:=by
 unfold Builtin.Bytes.buffer?
 refine aj (cV (T:="int") (mu s i u) q8 ?_)
 refine aj (cV (T:="int") (mu s i u) q8 ?_)
 exact aw q
theorem An{M:ir}{A:bn}{b:bD bX}{t u:j_}{i:Int}{Q:bD bX×bD bX×aq (Nat×Nat)->ar->Prop}(h0:0<=i)(h1:i < 256)
  (q:Q (b,#[i.toNat.toUInt8],if (Builtin.Bytes.window b.size none none).2 - (Builtin.Bytes.window b.size none none).1 < (#[i.toNat.toUInt8]:bD bX).size then none else af ((Builtin.Bytes.window b.size none none).1.toNat,(Builtin.Bytes.window b.size none none).2.toNat)) s):
  aH M A (Builtin.Bytes.searchArgs .bytes "count" ⟨[.bytes b t, .int i u],[]⟩) Q dq s:=by
 unfold Builtin.Bytes.searchArgs
 refine aj (bu (a:=(.bytes b t,[.int i u])) rfl ?_)
 dsimp only
 refine aj (bu (a:=none) rfl ?_)
 refine aj (bu (a:=none) rfl ?_)
 refine aj (Ec ?_)
 dsimp only[List.headD_cons]
 refine aj (cV (T:="int") (mu s i u) Jj ?_)
 rw[bC (by simp)]
 refine aj (bu (a:=i) rfl ?_)
 rw[bC (by rw[Bool.or_eq_true,cW,cW]; omega)]
 refine aj (aw (aj (bu (a:=b) rfl ?_)))
 exact aw q
theorem BH{b:bD bX}{t u:j_}{i:Int}{Q:am->ar->Prop}(h0:0<=i)(h1:i < 256)(q:Q (.int (cnt b i) s.toks) {s with toks:=s.toks+1}):
  aH (aE prog w) A (call (.builtin "bytes.count") [.bytes b t, .int i u]) Q dq s:=by
 have hT:s.TypeIs (.bytes b t) "bytes":=gB _ _ _
 refine cA rh hT we ?_ (xL _ _)
 unfold b7.«bytes.count» Builtin.Bytes.countM
 refine aj (An h0 h1 ?_)
 unfold cnt at q
 dsimp only
 split
 ·rename_i hh
  split at hh
  ·rename_i h2
   rw[dj h2] at q
   exact aj (li (aw ⟨_,rfl,q⟩))
  ·cases hh
 ·rename_i lo hi hh
  split at hh
  ·cases hh
  ·rename_i h2
   cases hh
   rw[bC h2] at q
   rw[bC (by simp)]
   exact aj (li (aw ⟨_,rfl,q⟩))
theorem Um{b:bD bX}{t:j_}{Q:am->ar->Prop}(hf:b.size < 2 ^ 62)(q:Q (.int b.size (s.toks+1)) {s with toks:=s.toks+1+1}):
  aH (aE prog w) A (call (.builtin "len") [.bytes b t]) Q dq s:=by
 refine call_len_gives (n:=b.size) (gB _ _ _) Dj zM (By _) (Gives.of_wp λ M A E s Q h=>?_) (by omega) (by omega) q
 unfold b7.«bytes.__len__»
 refine aj (bu (a:=(.bytes b t,[])) rfl ?_)
 refine aj (bu (a:=b) rfl ?_)
 exact aj (li (aw ⟨_,rfl,h⟩))
theorem Ul{Q:am->ar->Prop}(h:s.heap.get? a=af (nC bs))(hf:bs.length < 2 ^ 62)(q:Q (.int bs.length (s.toks+1)) {s with toks:=s.toks+1+1}):
  aH (aE prog w) A (call (.builtin "len") [.ref a]) Q dq s:=by
 refine ng kind_len plain_len entry_len (args_len1 _) ?_
 unfold b7.«len»
 refine aj (m:=oneArg "len" _) (aw ?_)
 refine aj (m:=callSpecial? (.ref a) (bR "__len__")) (c_ (name:=bR "__len__") (c9 h) uu
  (cA uu (c9 h) zJ ?_ (Bw _)))
 unfold b7.«bytearray.__len__»
 refine aj (bu (a:=(.ref a,[])) rfl ?_)
 refine aj (jL h ?_)
 refine aj (li (aw ⟨_,rfl,?_⟩))
 rw[cS]
 refine aj (bS (aw ?_))
 refine aj (wpAny_letGo ?_)
 show aH _ _ (if (bs.length:Int) < 0 then _ else _) _ _ _
 rw[bC (by omega)]
 show aH _ _ (if (bs.length:Int)>=2 ^ 63 then _ else _) _ _ _
 rw[bC (by omega)]
 exact aj (li (aw ⟨_,rfl,q⟩))
theorem order_eq:∀x y:ae bX,(Builtin.Bytes.order x y != .eq)=(x !=y)
 |[],[]=>rfl
 |[],_::_=>rfl
 |_::_,[]=>rfl
 |x::xs,y::ys=>by
  have ih:=order_eq xs ys
  unfold Builtin.Bytes.order
  by_cases h1:x < y
  ·rw[dj h1]
   have:x≠y:=λ e=>by subst e; exact bt h1 (by simp)
   simp [bne,this]
  ·rw[bC h1]
   by_cases h2:x > y
   ·rw[dj h2]
    have:x≠y:=λ e=>by subst e; exact bt h2 (by simp)
    simp [bne,this]
   ·rw[bC h2,ih]
    have:x=y:=UInt8.le_antisymm (by simpa using h2) (by simpa using h1)
    subst this
    simp [bne]
theorem xP{M:ir}{b:bD bX}{t:j_}:Looks M s.heap (Builtin.Bytes.slotIsOwn (.bytes b t) "__buffer__") true:=by
 have t0:Looks M s.heap (rH (.bytes b t)) (.type "bytes"):=Looks.of_pure rfl
 unfold Builtin.Bytes.slotIsOwn t2 rD
 refine Looks.andThen (t0.andThen (Looks.of_pure tA)) ?_
 dsimp only
 rw[bC (by decide+kernel)]
 refine t0.andThen (Looks.of_pure ?_)
 rw[ch]; kernel_rfl
theorem xQ{M:ir}{b:bD bX}{t:j_}:Looks M s.heap (Builtin.Bytes.ownRelease (.bytes b t)) false:=by
 have t0:Looks M s.heap (rH (.bytes b t)) (.type "bytes"):=Looks.of_pure rfl
 unfold Builtin.Bytes.ownRelease Builtin.Bytes.slotIsOwn t2 rD
 refine Looks.andThen (show Looks M s.heap _ true from ?_) .now
 refine Looks.andThen (t0.andThen (Looks.of_pure Ed)) ?_
 exact .now
theorem H_{M:ir}{A:bn}{id:cR}{full:aC}{b:bD bX}{t:j_}{Q:aq (bD bX)->ar->Prop}(q:Q (af b) s):aH M A (Builtin.Bytes.buffer? id (.bytes b t) full) Q dq s:=by
 have hT:s.TypeIs (.bytes b t) "bytes":=gB _ _ _
 unfold Builtin.Bytes.buffer?
 refine aj (cV hT tA ?_)
 dsimp only
 refine aj (xP.here ?_)
 rw[iK,bC aV]
 refine aj (cV hT tA ?_)
 refine aj (xQ.here ?_)
 rw[bC aV]
 exact aj (bu (a:=b) rfl (aw q))
theorem Wp{cs:ae bX}{t:j_}{Q:am->ar->Prop}(h:s.heap.get? a=af (nC bs))(hu:A.units < qI)(q:Q (.bool (bs !=cs)) s):
  aH (aE prog w) A (dw .NotEq (.ref a) (.bytes cs.toArray t)) Q dq s:=by
 show aH _ _ (richCompare .NotEq (.ref a) (.bytes cs.toArray t)) _ _ _
 have ha:=c9 h
 have hb:s.TypeIs (.bytes cs.toArray t) "bytes":=gB _ _ _
 have zW:isSubtype (.type "bytes") (.type "bytearray")=pure false:=by rw[ch]; kernel_rfl
 have Iv:(cQ "bytearray" !=cQ "bytes")=true:=by decide
 rcases hi:cmpInfo .NotEq with⟨sym,f,r⟩
 have hf:f=bR "__ne__":=by cases hi; rfl
 subst hf
 unfold richCompare
 rw[hi]
 dsimp only
 rw[ha.oneThing_none]
 dsimp only
 refine bS ?_
 refine aj (wpAny_cRoomFor hu ?_)
 refine aj (jX ha (aj (jX hb ?_)))
 rw[Iv,dj rfl]
 refine aj (bu zW ?_)
 rw[bC aV]
 refine aj (wpAny_tryCompare_slot ha w0 (cA w0 ha BW ?_ (D4 _ _)))
 unfold b7.«bytearray.__ne__»
 show aH _ _ (slotArgs "__ne__" 1 ⟨[.ref a, .bytes cs.toArray t],[]⟩>>=_) _ _ _
 refine aj (bu (a:=(.ref a,[.bytes cs.toArray t])) rfl ?_)
 dsimp only
 refine aj (yo h ?_)
 dsimp only
 unfold Builtin.Bytes.bufferQuiet?
 refine aj (aj (kP (cZ (H_ ?_) (λ aa aa z=>z) λ aa aa z=>z.elim)))
 refine aw ?_
 have e:Builtin.Bytes.holds "__ne__" (Builtin.Bytes.order bs cs)=(bs !=cs):=by rw[← order_eq]; rfl
 refine aw ⟨_,rfl,λ z=>(nomatch z),aw ?_⟩
 show Q (.bool (Builtin.Bytes.holds "__ne__" (Builtin.Bytes.order bs cs))) s
 rw[e]; exact q
end
noncomputable def si:ae Int->ae Int->aC
 |[],[]=>true
 |a::r,b::t=>aY (decide (a=b)) (si r t) false
 |_,_=>false
theorem Go:∀{a b:ae Int},si a b=true->a=b
 |[],[]=>λ aa=>rfl
 |[],_::_=>λ h=>ay h
 |_::_,[]=>λ h=>ay h
 |a::r,b::t=>λ h=>by
  by_cases q:a=b
  ·exact c2 q (Go ((ah (aY · (si r t) false) (cy q)).symm.trans h))
  ·exact ay ((ah (aY · (si r t) false) (dh q)).symm.trans h)
theorem BX:∀{a:ae Int},si a a=true
 |[]=>rfl
 |a::r=>(ah (aY · (si r r) false) (cy rfl)).trans BX
theorem KI{a b:ae Int}(h:si a b=false):a≠b:=λ e=>by rw[e,BX] at h; cases h
theorem OU(a b:ae Int):si a b=decide (a=b):=by
 cases h:si a b with
 |true=>exact(cy (Go h)).symm
 |false=>exact(dh (KI h)).symm
noncomputable def KH(a b:Int):aC:=decide (a=b)
abbrev lkI:ae Int->ae AV->Int->aq AV:=ES KH
abbrev p_:ae Int->Int->ae Int:=m8 KH
abbrev C5:ae Int->ae AV->Int->AV->ae AV:=jS KH
abbrev wB:ae (ae Int)->ae AV->ae Int->aq AV:=ES si
abbrev rc:ae (ae Int)->ae Int->ae (ae Int):=m8 si
abbrev wN:ae (ae Int)->ae AV->ae Int->AV->ae AV:=jS si
noncomputable def py:ae (ae Int)->ae Int->aC
 |k::ks,x=>aY (si k x) true (py ks x)
 |[],_=>false
noncomputable def intsOf:ae AV->aq (ae Int)
 |[]=>af []
 | .int i::r=>match intsOf r with
  |some l=>af (i::l)
  |none=>none
 |_=>none
def CW(a:AV)(K:ae Int->Prop):Prop:=match a with
 | .tup xs=>(match intsOf xs with
  |some k=>K k
  |none=>False)
 |_=>False
noncomputable def kT(a:AV):aq {k:ae Int // ∀K:ae Int->Prop,K k->CW a K}:=match a with
 | .tup xs=>match h:intsOf xs with
  |some k=>af ⟨k,λ K z=>by show(match intsOf xs with|some k=>K k|none=>False); rw[h]; exact z⟩
  |none=>none
 |_=>none
noncomputable def intAt:ae Int->Nat->Int
 |v::_,0=>v
 |_::r,i+1=>intAt r i
 |[],_=>0
noncomputable def rowAt:ae (ae Int)->Nat->ae Int
 |v::_,0=>v
 |_::r,i+1=>rowAt r i
 |[],_=>[]
theorem yK:∀(l:ae Int) (i:Nat),i < l.length->l[i]?=af (intAt l i)
 |[],i,h=>bt h (ml _)
 |_::_,0,_=>rfl
 |_::r,i+1,h=>yK r i (iq h)
theorem y6:∀(l:ae (ae Int)) (i:Nat),i < l.length->l[i]?=af (rowAt l i)
 |[],i,h=>bt h (ml _)
 |_::_,0,_=>rfl
 |_::r,i+1,h=>y6 r i (iq h)
theorem wD:∀(l:ae AV) (i:Nat),i < l.length->l[i]?=af (fy l i)
 |[],i,h=>bt h (ml _)
 |_::_,0,_=>rfl
 |_::r,i+1,h=>wD r i (iq h)
noncomputable def setInt:ae Int->Nat->Int->ae Int
 |_::r,0,v=>v::r
 |u::r,i+1,v=>u::setInt r i v
 |[],_,_=>[]
theorem qC:∀(l:ae Int) (i:Nat) (v:Int),setInt l i v=l.set i v
 |[],_,_=>rfl
 |_::_,0,_=>rfl
 |u::r,i+1,v=>ah (u::·) (qC r i v)
theorem Dg:∀(l:ae AV) (i:Nat) (v:AV),setAt l i v=l.set i v
 |[],_,_=>rfl
 |_::_,0,_=>rfl
 |u::r,i+1,v=>ah (u::·) (Dg r i v)
def gL(n:Int)(len:Nat)(k:Prop):Prop:=need (0<=n/\n < len/\n < 4611686018427387904) k
def Xf(o:AO)(i:AV)(K:AV->Prop):Prop:=match o with
 | .lst xs=>j5 i λ n=>gL n xs.length (K (fy xs n.toNat))
 | .il ns=>j5 i λ n=>gL n ns.length (K (.int (intAt ns n.toNat)))
 | .ba bs=>j5 i λ n=>gL n bs.length (K (.int (bs.getD n.toNat 0).toNat))
 | .iM ks vs=>j5 i λ n=>II (lkI ks vs n) K
 | .bG ks vs=>CW i λ k=>II (wB ks vs k) K
 |_=>False
def Ir(a i:AV)(mem:ae AO)(K:AV->Prop):Prop:=match a with
 | .own p=>pB mem p λ o=>Xf o i K
 | .ly xs=>j5 i λ n=>gL n xs.length (K (.int (intAt xs n.toNat)))
 | .row xs=>j5 i λ n=>gL n xs.length (K (.int (intAt xs n.toNat)))
 | .oH A5=>j5 i λ n=>gL n A5.length (K (.ly (rowAt A5 n.toNat)))
 | .lst xs=>j5 i λ n=>gL n xs.length (K (fy xs n.toNat))
 | .tup xs=>j5 i λ n=>gL n xs.length (K (fy xs n.toNat))
 | .bG ks vs=>CW i λ k=>II (wB ks vs k) K
 |_=>False
def YW(o:AO)(p:Nat)(i v:AV)(σ:St)(K:St->Prop):Prop:=match o with
 | .lst xs=>j5 i λ n=>gL n xs.length (K (σ.put p (.lst (setAt xs n.toNat v))))
 | .il ns=>j5 i λ n=>j5 v λ m=>gL n ns.length (K (σ.put p (.il (setInt ns n.toNat m))))
 | .ba bs=>j5 i λ n=>j5 v λ m=>gL n bs.length (need (0<=m/\m < 256/\bs.length < 1000000) (K (σ.put p (.ba (bs.set n.toNat (eC m.toNat))))))
 | .iM ks vs=>j5 i λ n=>cJ (bB ks.length 1000) (K (σ.put p (.iM (p_ ks n) (C5 ks vs n v))))
 | .bG ks vs=>CW i λ k=>cJ (bB ks.length 1000) (K (σ.put p (.bG (rc ks k) (wN ks vs k v))))
 |_=>False
def I3(a i v:AV)(σ:St)(K:St->Prop):Prop:=lA a λ p=>pB σ.mem p λ o=>YW o p i v σ K
section
variable{G:BM}{ρ:ae au}
theorem xH.u0{es:ae bi}{us:ae am}{Q:ae bi->ae am->Prop}(h:xH [] es us)(f:Q [] []):Q es us:=(eD h)▸(f4 h)▸f
theorem xH.uc{k:Int}{ks:ae Int}{es:ae bi}{us:ae am}{Q:ae bi->ae am->Prop}(h:xH (k::ks) es us)(f:∀t u es us,xH ks es us->Q (⟨hashInt k, .int k t,u⟩::es) (u::us)):Q es us:=
 aD h λ aa h=>h.elim λ aa h=>h.elim λ aa h=>h.elim λ aa h=>h.1▸h.2.1▸f _ _ _ _ h.2.2
theorem isInt_self{k:Int}{t:j_}:uY k (.int k t)=true:=by simp [uY]
noncomputable def FU(prog:aK)(w:bw)(es:ae bi):Prop:=∀e∈es,∃k,(cD prog w).is k e.key=true/\e.hash=(cD prog w).hash k
theorem xH.pairs{prog:aK}{w:bw}:∀{ks:ae Int} {es:ae bi} {us:ae am},xH ks es us->Pairs (cD prog w) es (ks.zip us)/\FU prog w es/\us.length=ks.length
 |[],_,_=>λ h=>h.u0 (Q:=λ es us=>Pairs (cD prog w) es ([].zip us)/\FU prog w es/\us.length=0) ⟨.nil,λ aa h=>bt h bN,rfl⟩
 |k::ks,_,_=>λ h=>h.uc (Q:=λ es us=>Pairs (cD prog w) es ((k::ks).zip us)/\FU prog w es/\us.length=ks.length+1) λ t u es us h=>
  have z:=xH.pairs (prog:=prog) (w:=w) h
  ⟨.cons (isInt_self (t:=t)) rfl z.1,λ e he=>(bW.mp he).elim (λ q=>q.symm▸⟨k,isInt_self (t:=t),rfl⟩) (z.2.1 e),ah (·+1) z.2.2⟩
theorem xH.of{prog:aK}{w:bw}{es:ae bi}{kvs:ae (Int×am)}(h:Pairs (cD prog w) es kvs):FU prog w es->xH (kvs.map (·.1)) es (kvs.map (·.2)):=by
 induction h with
 |nil=>exact λ aa=>⟨rfl,rfl⟩
 |@cons e kv es kvs h1 h2 _ ih=>
  intro hk
  obtain⟨k,hk1,hk2⟩:=hk e aW
  obtain rfl:=(cD prog w).inj _ _ _ hk1 h1
  obtain⟨t,ht⟩:=Value.isInt_shape hk1
  obtain⟨hh,key,val⟩:=e
  dsimp only at ht h2 hk2
  subst ht h2 hk2
  exact⟨t,_,es,_,rfl,rfl,ih λ e he=>hk e (aQ _ he)⟩
end
section
variable{κ β:Type}[DecidableEq κ]{e:κ->κ->aC}{G:BM}{ρ:ae au}{n:κ}{v:AV}
structure VX(e:κ->κ->aC):Prop where
 t:∀{a b},e a b=true->a=b
 f:∀{a b},e a b=false->a≠b
theorem OT:VX KH:=⟨a4,oC⟩
theorem Tp:VX si:=⟨Go,KI⟩
noncomputable def B0(xs:ae (κ×β))(n:κ):aq β:=(xs.find? λ x=>decide (x.1=n)).map (·.2)
theorem yF{x:κ×β}{xs:ae (κ×β)}(h:x.1=n):B0 (x::xs) n=af x.2:=ah (e6 λ x:κ×β=>x.2) (List.find?_cons_of_pos (p:=λ x:κ×β=>decide (x.1=n)) (cy h))
theorem wi{x:κ×β}{xs:ae (κ×β)}(h:x.1≠n):B0 (x::xs) n=B0 xs n:=ah (e6 λ x:κ×β=>x.2) (List.find?_cons_of_neg (p:=λ x:κ×β=>decide (x.1=n)) λ z=>h (a4 z))
theorem z8(E:VX e){val:β->am}:∀{xs:ae (κ×β)} {vs:ae AV},ES e (xs.map (·.1)) vs n=af v->bI G ρ vs (xs.map λ x=>val x.2)->∃b,B0 xs n=af b/\VR G ρ v (val b)
 |[],_=>λ h aa=>cu h
 |_::_,[]=>λ h aa=>cu h
 |x::xs,w::vs=>λ h hv=>condB h (λ q h=>⟨x.2,yF (E.t q),ak h▸hv.cc.1⟩) λ q h=>(z8 E h hv.cc.2).imp λ b=> .imp_left (wi (E.f q)).trans
noncomputable def sd(k:κ)(f:κ×β->κ×β)(nw:κ×β):ae (κ×β)->ae (κ×β)
 |[]=>[nw]
 |x::r=>if x.1=k then f x::r else x::sd k f nw r
theorem wS{f:κ×β->κ×β}{nw x:κ×β}{r:ae (κ×β)}(h:x.1=n):sd n f nw (x::r)=f x::r:=dj h
theorem tN{f:κ×β->κ×β}{nw x:κ×β}{r:ae (κ×β)}(h:x.1≠n):sd n f nw (x::r)=x::sd n f nw r:=bC h
theorem vl(k:κ)(f:κ×β->κ×β)(nw:κ×β):∀l:ae (κ×β),(l.map (·.1)).Nodup->
  (if l.any (λ x=>decide (x.1=k)) then l.map (λ x=>if x.1=k then f x else x) else l++[nw])=sd k f nw l
 |[],_=>rfl
 |x::r,hn=>by
  have hn:=dS.mp hn
  by_cases h:x.1=k
  ·rw[wS h,List.any_cons,dj (g6.mpr (.inl (cy h))),AJ,dj h]
   exact ah (f x::·) ((se λ y hy=>bC λ(e:y.1=k)=>hn.1 (show x.1∈_ from(e.trans h.symm)▸g7 (f:=λ x:κ×β=>x.1) hy)).trans (List.map_id r))
  ·rw[tN h,← vl k f nw r hn.2,List.any_cons,dh h,Bool.false_or,AJ,bC h]
   split<;>rfl
theorem Dd{f:κ×β->κ×β}{nw y:κ×β}:∀{l:ae (κ×β)},y∈sd n f nw l->y=nw\/y∈l\/∃x∈l,y=f x
 |[],h=> .inl (aZ.mp h)
 |x::r,h=>by
  by_cases q:x.1=n
  ·rw[wS q] at h
   exact(bW.mp h).elim (λ e=> .inr (.inr ⟨x, .head _,e⟩)) λ h=> .inr (.inl (.tail _ h))
  ·rw[tN q] at h
   exact(bW.mp h).elim (λ e=> .inr (.inl (e▸ .head _))) λ h=>(Dd h).imp_right<| .imp (.tail _)<| .imp λ aa=> .imp_left (.tail _)
theorem qz(E:VX e){val:β->am}{f:β->β}{nb:β}{u:am}(hu:VR G ρ v u)(h0:val nb=u)(hf:∀b,val (f b)=u):∀{xs:ae (κ×β)} {vs:ae AV},bI G ρ vs (xs.map λ x=>val x.2)->
  (sd n (λ x=>(x.1,f x.2)) (n,nb) xs).map (·.1)=m8 e (xs.map (·.1)) n/\bI G ρ (jS e (xs.map (·.1)) vs n v) ((sd n (λ x=>(x.1,f x.2)) (n,nb) xs).map λ x=>val x.2)
 |[],_=>λ aa=>⟨rfl, .cons (show VR G ρ v (val nb) from h0.symm▸hu) .nil⟩
 |_::_,[]=>λ hv=>bt (show _::_=[] from hv) (lE _ _)
 |x::xs,w::vs=>λ hv=>by
  rw[AJ]
  cases q:e x.1 n with
  |true=>rw[wS (E.t q),qA q,n_ q]; exact⟨rfl, .cons (show VR G ρ v (val (f x.2)) from(hf x.2).symm▸hu) hv.cc.2⟩
  |false=>rw[tN (E.f q),mH q,k_ q]; exact have z:=qz E hu h0 hf hv.cc.2; ⟨ah (x.1::·) z.1, .cons hv.cc.1 z.2⟩
theorem r_(E:VX e):∀{ks:ae κ},ks.Nodup->(m8 e ks n).Nodup/\∀x∈m8 e ks n,x=n\/x∈ks
 |[],_=>⟨o4 _ _,λ x h=> .inl (aZ.mp h)⟩
 |k::ks,h=>by
  have h:=dS.mp h
  have z:=r_ E h.2
  cases q:e k n with
  |true=>rw[qA q]; exact⟨dS.mpr h,λ x=> .inr⟩
  |false=>rw[mH q]; exact⟨dS.mpr ⟨λ hm=>(z.2 k hm).elim (E.f q) h.1,z.1⟩,λ x hx=>(bW.mp hx).elim (λ e=> .inr (e▸ .head _)) λ hx=>(z.2 x hx).imp_right (.tail _)⟩
end
section
variable{G:BM}{ρ:ae au}
theorem IS{ks:ae Int}{vs:ae AV}{us:ae am}{n:Int}{v:AV}{u:am}(hv:bI G ρ vs us)(hl:us.length=ks.length)(hu:VR G ρ v u):
  (sd n (λ kv=>(kv.1,u)) (n,u) (ks.zip us)).map (·.1)=p_ ks n/\bI G ρ (C5 ks vs n v) ((sd n (λ kv=>(kv.1,u)) (n,u) (ks.zip us)).map (·.2)):=by
 have z:=qz (n:=n) OT (val:=id) (f:=λ aa=>u) hu rfl (λ aa=>rfl) (xs:=ks.zip us) (vs:=vs) (by rw[show((ks.zip us).map λ x=>id x.2)=us from List.map_snd_zip (aT hl)]; exact hv)
 rw[g_ (aT hl.symm)] at z
 exact z
theorem ut{n:Int}{ks:ae Int}(h:ks.Nodup):(p_ ks n).Nodup/\∀x∈p_ ks n,x=n\/x∈ks:=r_ OT h
end
def TK(G:BM)(k:ae Int)(a:au):Prop:=∃o vs,G a=af o/\px o vs/\cw k vs.toList
section
variable{G:BM}{ρ:ae au}
theorem pw.u0{es:ae bi}{us:ae am}{Q:ae bi->ae am->Prop}(h:pw G [] es us)(f:Q [] []):Q es us:=(eD h)▸(f4 h)▸f
theorem pw.uc{k:ae Int}{ks:ae (ae Int)}{es:ae bi}{us:ae am}{Q:ae bi->ae am->Prop}(h:pw G (k::ks) es us)(f:∀a u es us,TK G k a->pw G ks es us->Q (⟨Fs k, .ref a,u⟩::es) (u::us)):Q es us:=
 aD h λ aa h=>h.elim λ o h=>h.elim λ vs h=>h.elim λ aa h=>h.elim λ aa h=>h.elim λ aa h=>h.1▸h.2.1▸f _ _ _ _ ⟨o,vs,h.2.2.1.1,h.2.2.1.2,h.2.2.2.1⟩ h.2.2.2.2
abbrev JK(prog:aK)(w:bw)(G:BM)(ks:ae (ae Int))(es:ae bi)(us:ae am)(xs:ae (ae Int×au×am)):Prop:=xs.map (·.1)=ks/\xs.map (·.2.2)=us/\es=xs.map (entryOfKey (g5 (cD prog w)))/\∀x∈xs,TK G x.1 x.2.1
theorem pw.rows{prog:aK}{w:bw}:∀{ks:ae (ae Int)} {es:ae bi} {us:ae am},pw G ks es us->∃xs,JK prog w G ks es us xs
 |[],_,_=>λ h=>h.u0 (Q:=λ es us=>∃xs,JK prog w G [] es us xs) ⟨[],rfl,rfl,rfl,λ aa h=>bt h bN⟩
 |k::ks,_,_=>λ h=>h.uc (Q:=λ es us=>∃xs,JK prog w G (k::ks) es us xs) λ a u es us x h=>(pw.rows (prog:=prog) (w:=w) h).elim λ xs z=>
  ⟨(k,a,u)::xs,ah (k::·) z.1,ah (u::·) z.2.1,ah (⟨Fs k, .ref a,u⟩::·) z.2.2.1,λ y hy=>(bW.mp hy).elim (λ e=>e.symm▸x) (z.2.2.2 y)⟩
theorem pw.of{prog:aK}{w:bw}:∀{xs:ae (ae Int×au×am)},(∀x∈xs,TK G x.1 x.2.1)->pw G (xs.map (·.1)) (xs.map (entryOfKey (g5 (cD prog w)))) (xs.map (·.2.2))
 |[]=>λ aa=>⟨rfl,rfl⟩
 |x::xs=>λ h=>(h x (.head _)).elim λ o z=>z.elim λ vs z=>⟨x.2.1,o,vs,x.2.2,_,_,rfl,rfl,⟨z.1,z.2.1⟩,z.2.2,pw.of λ y hy=>h y (.tail _ hy)⟩
theorem Cq{prog:aK}{w:bw}:∀{k:ae Int} {vs:ae am},cw k vs->ItemsAre (cD prog w) k vs
 |[],_=>λ h=>h.u0 (Q:=λ vs=>ItemsAre (cD prog w) [] vs) .nil
 |i::k,_=>λ h=>h.uc (Q:=λ vs=>ItemsAre (cD prog w) (i::k) vs) λ t r h=> .cons (isInt_self (t:=t)) (Cq h)
theorem TK.key{prog:aK}{w:bw}{k:ae Int}{a:au}{h:Heap}(x:TK G k a)(kg:∀a o,G a=af o->h.get? a=af o):(g5 (cD prog w)).is h k a:=by
 exact x.elim λ o x=>x.elim λ vs x=>x.2.1.2.elim λ n h3=>⟨o,vs,n,kg _ _ x.1,x.2.1.1,h3,Cq x.2.2⟩
theorem Lp{x:AV}{r:ae AV}{k:ae Int}{Q:Prop}(h:intsOf (x::r)=af k)(f:∀i l,x= .int i->intsOf r=af l->i::l=k->Q):Q:=by
 rcases x with _|_|_|i|_|_|_|_|_|_|_|_|_|_|_|_|_|_
 case int=>
  have h:(match intsOf r with|some l=>af (i::l)|none=>none)=af k:=h
  cases q:intsOf r with
  |none=>rw[q] at h; exact cu h
  |some l=>rw[q] at h; exact f i l rfl q (ak h)
 all_goals exact cu h
theorem VR.iuE{a:AV}{i:Int}{v:am}{Q:am->Prop}(h:VR G ρ a v)(e:a= .int i)(k:∀t,Q (.int i t)):Q v:=VR.iu (e▸h:VR G ρ (.int i) v) k
theorem CW.e{a:AV}{K:ae Int->Prop}{Q:AV->Prop}(h:CW a K)(k:∀xs l,intsOf xs=af l->K l->Q (.tup xs)):Q a:=by
 rcases a with _|_|_|_|_|_|_|_|_|_|xs|_|_|_|_|_|_|_
 case tup=>
  have h:(match intsOf xs with|some k=>K k|none=>False):=h
  cases q:intsOf xs with
  |none=>rw[q] at h; exact h.elim
  |some l=>rw[q] at h; exact k xs l q h
 all_goals exact h.elim
theorem n6:∀{xs:ae AV} {k:ae Int} {vs:ae am},intsOf xs=af k->bI G ρ xs vs->cw k vs
 |[],k,_=>λ h hv=>hv.u0 (Q:=λ vs=>cw k vs) (ak h▸rfl)
 |x::r,k,_=>λ h hv=>hv.uc (Q:=λ vs=>cw k vs) λ u us hu hr=>Lp h λ i l e q ek=>hu.iuE (Q:=λ u=>cw k (u::us)) e λ t=>ek▸cw.cons (n6 q hr)
theorem sM{a:AV}{v:am}{K:ae Int->Prop}(va:VR G ρ a v)(h:CW a K):∃k adr,v= .ref adr/\TK G k adr/\K k:=
 CW.e h (Q:=λ a=>VR G ρ a v->∃k adr,v= .ref adr/\TK G k adr/\K k) (λ xs k e h va=>va.I8 (Q:=λ v=>∃k adr,v= .ref adr/\TK G k adr/\K k) λ l o vs h1 h2 h3=>⟨k,l,rfl,⟨o,vs,h1,h2,n6 e h3⟩,h⟩) va
theorem GN{ks:ae (ae Int)}{vs:ae AV}{xs:ae (ae Int×au×am)}{n:ae Int}{v:AV}(h:wB ks vs n=af v)(e:xs.map (·.1)=ks)(hv:bI G ρ vs (xs.map (·.2.2))):∃p,atKey xs n=af p/\VR G ρ v p.2:=z8 (val:=(·.2)) Tp (e▸h) hv
theorem wC{n:ae Int}:∀{ks:ae (ae Int)} {xs:ae (ae Int×au×am)},xs.map (·.1)=ks->(atKey xs n).isSome=py ks n
 |_,[]=>λ e=>e▸rfl
 |_,x::xs=>λ e=>e▸by
  show(B0 (x::xs) n).isSome=aY (si x.1 n) true (py (xs.map (·.1)) n)
  cases q:si x.1 n with
  |true=>rw[yF (Go q)]; rfl
  |false=>rw[wi (KI q)]; exact wC rfl
theorem IU{ks:ae (ae Int)}{vs:ae AV}{xs:ae (ae Int×au×am)}{n:ae Int}{a:au}{v:AV}{u:am}(e:xs.map (·.1)=ks)(hv:bI G ρ vs (xs.map (·.2.2)))(hu:VR G ρ v u):
  (sd n (λ x=>(x.1,x.2.1,u)) (n,a,u) xs).map (·.1)=rc ks n/\bI G ρ (wN ks vs n v) ((sd n (λ x=>(x.1,x.2.1,u)) (n,a,u) xs).map (·.2.2))/\
   ∀y∈sd n (λ x=>(x.1,x.2.1,u)) (n,a,u) xs,(y.1=n/\y.2.1=a)\/∃x∈xs,y.1=x.1/\y.2.1=x.2.1:=
 have z:=qz (n:=n) Tp (val:=(·.2)) (f:=λ b=>(b.1,u)) (nb:=(a,u)) hu rfl (λ aa=>rfl) hv
 ⟨e▸z.1,e▸z.2,λ y hy=>by
  rcases Dd hy with e|h|⟨x,h,e⟩
  ·exact .inl (e▸⟨rfl,rfl⟩)
  ·exact .inr ⟨y,h,rfl,rfl⟩
  ·exact .inr ⟨x,h,e▸⟨rfl,rfl⟩⟩⟩
theorem C4{n:ae Int}{ks:ae (ae Int)}(h:ks.Nodup):(rc ks n).Nodup/\∀x∈rc ks n,x=n\/x∈ks:=r_ Tp h
end
def lr(prog:aK)(w:bw)(A:bn)(u v:am)(Q:am->ar->Prop)(s:ar):Prop:=
 ∃T id,s.TypeIs u T/\hU (.type T) "__getitem__"=pure (af (.builtin id))/\aH (aE prog w) A (getItem u v) Q dq s
section
variable{P:cC}{ct:Ct}{F:Fd}{G:BM}{ρ:ae au}{σ:St}{s:ar}{Kv:AV->St->Prop}
theorem Ah{a:AV}{v:am}{K:Int->Prop}(va:VR G ρ a v)(h:j5 a K):∃i t,v= .int i t/\a= .int i/\K i:=
 h.e (Q:=λ a=>VR G ρ a v->∃i t,v= .int i t/\a= .int i/\K i) (λ i h va=>aD va λ t e=>⟨i,t,e,rfl,h⟩) va
theorem ltN{n:Int}{l:Nat}(h0:0<=n)(h1:n < l):n.toNat < l:=(mR h0).mpr h1
theorem gL.u{n:Int}{l:Nat}{k Q:Prop}(h:gL n l k)(f:0<=n->n < l->n < 4611686018427387904->k->Q):Q:=need.u h λ b k=>f b.1 b.2.1 b.2.2 k
def JM(prog:aK)(w:bw)(A:bn)(s:ar)(adr:au)(vs:bD am):Prop:=∀(i:Int) (t:j_) (x:am) (Q:am->ar->Prop),0<=i->i < 4611686018427387904->vs.toList[i.toNat]?=af x->Q x s->lr prog w A (.ref adr) (.int i t) Q s
theorem RJ{vs:bD am}{i:Nat}{x:am}(hx:vs.toList[i]?=af x):vs[i]?=af x:=bL.symm.trans hx
theorem vd{prog:aK}{w:bw}{A:bn}{adr:au}{o:Obj}{vs:bD am}(ho:s.heap.get? adr=af o)(hl:iX o vs):JM prog w A s adr vs:=λ i t x Q h0 h2 hx h=>
 have L:s.heap.IsList adr vs:=⟨o,ho,hl.is⟩
 ⟨"list",_,L.typeIs,AR.lookup,wpAny_getItem_list L h0 (dk h2 (by decide)) (RJ hx) h⟩
theorem AC{prog:aK}{w:bw}{A:bn}{adr:au}{o:Obj}{vs:bD am}(ho:s.heap.get? adr=af o)(hl:px o vs):JM prog w A s adr vs:=λ i t x Q h0 h2 hx h=>
 have L:IsTup s.heap adr vs:=⟨o,ho,hl.1,hl.2⟩
 have Iu:i < vs.size:=(mR h0).mp (jp hx)
 ⟨"tuple",_,L.typeIs,slot_tuple_getitem.lookup,PyProof.Rows.getItem_tuple L (aO (by decide) h0) (dk h2 (by decide)) (seqIndex_of h0 Iu) (RJ hx) h⟩
theorem set_plain{prog:aK}{w:bw}{A:bn}{l:au}{vs:bD am}{k:Int}{t:j_}{v:am}{Q:e7->ar->Prop}(hl:s.heap.PlainList l vs)(h0:0<=k)(Xo:k < 2 ^ 63)(hn:k < vs.size)
  (hQ:∀h',h'.PlainList l (vs.setIfInBounds k.toNat v)->kS l s.heap h'->Q () {s with heap:=h'}):aH (aE prog w) A (eP (.ref l) (.int k t) v) Q dq s:=by
 obtain⟨n,ho⟩:=hl
 have hT:s.TypeIs (.ref l) "list":=⟨_,ho,rfl⟩
 unfold eP
 try with_reducible refine bS ?_
 first|refine aj (aw ?_)|skip
 refine aj (lF hT (by decide) ?_)
 refine aj (c_ (name:=bR "__setitem__") hT slot_list_setitem (cA slot_list_setitem hT entry_list_setitem ?_ (args_list_setitem _ _ _)))
 show aH _ _ (Builtin.List.listSubscript? (.int k t)>>=_) _ _ s
 refine aj (wpAny_listSubscript_int (fitsIndex_of h0 Xo) ?_)
 clear Xo
 obtain⟨j,rfl⟩:=po h0
 have hj:j < vs.size:=by omega
 show aH _ _ ((seqItemAt l j>>=λ r=>pure (r.map (j,·)))>>=_) _ _ s
 refine aj (aj (wpAny_seqItemAt ho rfl (aw ?_)))
 rw[eX hj]
 show aH _ _ (setSeqItemAt l j v>>=_) _ _ s
 have km:∀f:bD am->bD am,∃m,Obj.mapSeq f (⟨.type "list",none, .seq vs n,#[]⟩:Obj)=⟨.type "list",none, .seq (f vs) m,#[]⟩:=λ f=>⟨_,rfl⟩
 obtain⟨m,km⟩:=km (·.setIfInBounds j v)
 have fin:(s.heap.update l (Obj.mapSeq (·.setIfInBounds j v))).PlainList l (vs.setIfInBounds j v):=⟨m,by rw[dI _ ho (by rw[km]; rfl)]; exact ah af km⟩
 refine aj (wpAny_setSeqItemAt ho rfl ?_)
 first
  |exact aj (aw (aw ⟨.none,rfl,aw (hQ _ fin (dB ..))⟩))
  |exact aw ⟨.none,rfl,aw (hQ _ fin (dB ..))⟩
theorem Sn:hU (.type "dict") "__getitem__"=pure (af (.builtin "dict.__getitem__")):=slot_dict_getitem.lookup
theorem xH.dict{prog:aK}{w:bw}{adr:au}{ob:Obj}{es:bD bi}{ep:Nat}{ks:ae Int}{us:ae am}(h1:s.heap.get? adr=af ob)(hc:ob.ExactDict)(hd:ob.data= .dict es ep)(hk:xH ks es.toList us)(hn:ks.Nodup):s.heap.DictOf (cD prog w) adr (ks.zip us):=
 have p:=hk.pairs (prog:=prog) (w:=w)
 ⟨ob,es,ep,h1,hc,hd,λ e he=>p.2.1 e (gF.mpr he),p.1,(g_ (aT p.2.2.symm)).symm▸hn⟩
theorem Sf(O:gH P ct F):F.A.units+1 < qI:=aS (fC (bq _ _) 1) (b9 (f5 O.room.2.1) (by decide))
theorem Fn{xs:ae (ae Int×au×am)}{k:ae Int}{ka:au}{y:am}(hn:(xs.map (·.1)).Nodup):storedH xs k ka y=sd k (λ x=>(x.1,x.2.1,y)) (k,ka,y) xs:=by
 rw[← vl k (λ x=>(x.1,x.2.1,y)) (k,ka,y) xs hn]
 unfold storedH putAt
 rw[show(atKey xs k).isSome=xs.any (λ x=>decide (x.1=k)) by unfold atKey; rw[Option.isSome_map,List.isSome_find?]]
theorem VR.WJ{xs:ae Int}{a:au}{o:Obj}{vs:bD am}(h:G a=af o)(k:px o vs)(r:cw xs vs.toList):VR G ρ (.ly xs) (.ref a):=i4 a ⟨o,vs,rfl,h,k,r⟩
section
variable{i:AV}{v:am}{adr:au}{ob:Obj}(R:RF F ct.aR G ρ σ s)(vi:VR G ρ i v)
include R vi
theorem U7{vs:bD am}{xs:ae AV}(g:JM P.prog P.w F.A s adr vs)(hv:bI G ρ xs vs.toList)(h:j5 i λ n=>gL n xs.length (Kv (fy xs n.toNat) σ)):lr P.prog P.w F.A (.ref adr) v (PE F ct.aR G ρ Kv) s:=
 h.u (Q:=λ v=>lr P.prog P.w F.A (.ref adr) v (PE F ct.aR G ρ Kv) s) vi λ n t h=>h.u λ b0 b1 b2 h=>(hv.get (wD _ _ (ltN b0 b1))).elim λ x z=>g n t x _ b0 b2 z.1 (PE.here R z.2 h)
theorem U6{vs:bD am}{xs:ae Int}(g:JM P.prog P.w F.A s adr vs)(hv:cw xs vs.toList)(h:j5 i λ n=>gL n xs.length (Kv (.int (intAt xs n.toNat)) σ)):lr P.prog P.w F.A (.ref adr) v (PE F ct.aR G ρ Kv) s:=
 h.u (Q:=λ v=>lr P.prog P.w F.A (.ref adr) v (PE F ct.aR G ρ Kv) s) vi λ n t h=>h.u λ b0 b1 b2 h=>(hv.get (yK _ _ (ltN b0 b1))).elim λ t' z=>g n t _ _ b0 b2 z (PE.here R VR.mA h)
theorem aco{vs:bD am}{xs:ae (ae Int)}(g:JM P.prog P.w F.A s adr vs)(hv:∀(i:Nat) (y:ae Int),xs[i]?=af y->∃(b:au) (o:Obj) (us:bD am),vs[i]?=af (dp b)/\G b=af o/\px o us/\cw y us.toList)
  (h:j5 i λ n=>gL n xs.length (Kv (.ly (rowAt xs n.toNat)) σ)):lr P.prog P.w F.A (.ref adr) v (PE F ct.aR G ρ Kv) s:=
 h.u (Q:=λ v=>lr P.prog P.w F.A (.ref adr) v (PE F ct.aR G ρ Kv) s) vi λ n t h=>h.u λ b0 b1 b2 h=>(hv _ _ (y6 _ _ (ltN b0 b1))).elim λ b z=>z.elim λ o z=>z.elim λ us z=>
  g n t _ _ b0 b2 (bL.trans z.1) (PE.here R (VR.WJ z.2.1 z.2.2.1 z.2.2.2) h)
theorem OL{es:bD bi}{ep:Nat}{ks:ae Int}{us:ae am}{vs:ae AV}(h1:s.heap.get? adr=af ob)(hc:ob.ExactDict)(hd:ob.data= .dict es ep)(hk:xH ks es.toList us)(hv:bI G ρ vs us)(hn:ks.Nodup)
  (h:j5 i λ n=>II (lkI ks vs n) λ x=>Kv x σ):lr P.prog P.w F.A (.ref adr) v (PE F ct.aR G ρ Kv) s:=
 h.u (Q:=λ v=>lr P.prog P.w F.A (.ref adr) v (PE F ct.aR G ρ Kv) s) vi λ n t h=>h.u λ x hx h=>
  have p:=(hk.pairs (prog:=P.prog) (w:=P.w)).2.2
  have D:=xH.dict (prog:=P.prog) (w:=P.w) h1 hc hd hk hn
  (z8 (xs:=ks.zip us) (val:=id) OT ((g_ (aT p.symm)).symm▸hx) ((List.map_snd_zip (aT p):(ks.zip us).map (λ x=>id x.2)=us).symm▸hv)).elim λ y z=>
   ⟨"dict",_,D.mapOf.typeIs,Sn,wpAny_getItem_of (show(cD P.prog P.w).is n (.int n t)=true from isInt_self (t:=t)) D.mapOf z.1 (PE.toks R z.2 h)⟩
theorem Gk(O:gH P ct F){es:bD bi}{ep:Nat}{ks:ae (ae Int)}{us:ae am}{vs:ae AV}(h1:s.heap.get? adr=af ob)(hc:ob.ExactDict)(hd:ob.data= .dict es ep)(hk:pw G ks es.toList us)(hv:bI G ρ vs us)(hn:ks.Nodup)
  (h:CW i λ n=>II (wB ks vs n) λ x=>Kv x σ):lr P.prog P.w F.A (.ref adr) v (PE F ct.aR G ρ Kv) s:=
 (sM vi h).elim λ k z=>z.elim λ ka z=>z.2.2.u λ x hx h=>(hk.rows (prog:=P.prog) (w:=P.w)).elim λ xs q=>
  have D:s.heap.DictOfH (g5 (cD P.prog P.w)) adr xs:=⟨ob,es,ep,h1,hc,hd,q.2.2.1,λ x hx=>(q.2.2.2 x hx).key R.rm.kg,q.1.symm▸hn⟩
  (GN hx q.1 (q.2.1.symm▸hv)).elim λ p y=>z.1.symm▸⟨"dict",_,D.typeIs,Sn,wpAny_getItem_heap (Sf O) (z.2.1.key R.rm.kg) D y.1 (PE.toks R y.2 h)⟩
theorem Oo{bs:ae bX}(h1:s.heap.get? adr=af (nC bs))(h:j5 i λ n=>gL n bs.length (Kv (.int (bs.getD n.toNat 0).toNat) σ)):lr P.prog P.w F.A (.ref adr) v (PE F ct.aR G ρ Kv) s:=
 h.u (Q:=λ v=>lr P.prog P.w F.A (.ref adr) v (PE F ct.aR G ρ Kv) s) vi λ n t h=>h.u λ b0 b1 b2 h=>⟨"bytearray",_,c9 h1,eR.lookup,J8 h1 b0 (dk b2 (by decide)) b1 (PE.toks R VR.mA h)⟩
end
theorem EC{o:AO}{ob:Obj}{i:AV}{v:am}{adr:au}(O:gH P ct F)(R:RF F ct.aR G ρ σ s)(vi:VR G ρ i v)(h1:s.heap.get? adr=af ob)(q:OR G ρ o ob)(h:Xf o i λ x=>Kv x σ):lr P.prog P.w F.A (.ref adr) v (PE F ct.aR G ρ Kv) s:=by
 rcases o with _|_|_|_|_|_|_|_
 case lst=>exact aD q λ vs q=>U7 R vi (vd h1 q.1) q.2 h
 case il=>exact aD q λ vs q=>U6 R vi (vd h1 q.1) q.2 h
 case iM=>exact(f4 q).elim λ es z=>z.elim λ ep z=>z.elim λ us z=>OL R vi h1 (eD q) z.1 z.2.1 z.2.2.1 z.2.2.2 h
 case bG=>exact(f4 q).elim λ es z=>z.elim λ ep z=>z.elim λ us z=>Gk R vi O h1 (eD q) z.1 z.2.1 z.2.2.1 z.2.2.2 h
 case ba=>exact Oo R vi (h1.trans (ah af q)) h
 all_goals exact h.elim
theorem Ez{a i:AV}{u v:am}(O:gH P ct F)(R:RF F ct.aR G ρ σ s)(va:VR G ρ a u)(vi:VR G ρ i v)(h:Ir a i σ.mem λ x=>Kv x σ):
  lr P.prog P.w F.A u v (PE F ct.aR G ρ Kv) s:=by
 rcases a with _|_|_|_|_|p|_|_|xs|xs|xs|xs|xs|_|_|_|_|⟨ks,us⟩
 case own=>exact va.P8 (Q:=λ u=>lr P.prog P.w F.A u v (PE F ct.aR G ρ Kv) s) λ adr ha=>pB.u h λ o e h=>(R.rm.obj p adr o ha ((eI ..).symm.trans e)).elim λ ob z=>EC O R vi z.1 z.2 h
 case ly=>exact Mx (Q:=λ u=>lr P.prog P.w F.A u v (PE F ct.aR G ρ Kv) s) va λ adr o vs z=>U6 R vi (AC (R.rm.kg _ _ z.1) z.2.1) z.2.2 h
 case oH=>exact Mx (Q:=λ u=>lr P.prog P.w F.A u v (PE F ct.aR G ρ Kv) s) va λ adr o vs z=>aco R vi (AC (R.rm.kg _ _ z.1) z.2.1) z.2.2.2 h
 case tup=>exact va.I8 (Q:=λ u=>lr P.prog P.w F.A u v (PE F ct.aR G ρ Kv) s) λ adr o vs z1 z2 z3=>U7 R vi (AC (R.rm.kg _ _ z1) z2) z3 h
 case lst=>exact va.lstU (Q:=λ u=>lr P.prog P.w F.A u v (PE F ct.aR G ρ Kv) s) λ adr o vs z1 z2 z3=>U7 R vi (vd (R.rm.kg _ _ z1) z2) z3 h
 case row=>exact va.C8 (Q:=λ u=>lr P.prog P.w F.A u v (PE F ct.aR G ρ Kv) s) λ adr o vs z1 z2 z3=>U6 R vi (vd (R.rm.kg _ _ z1) z2) z3 h
 case bG=>exact aD va λ adr z=>z.elim λ o z=>z.elim λ es z=>z.elim λ ep z=>z.elim λ us z=>z.1▸Gk R vi O (R.rm.kg _ _ z.2.1) z.2.2.1 z.2.2.2.1 z.2.2.2.2.1 z.2.2.2.2.2.1 z.2.2.2.2.2.2.1 h
 all_goals exact h.elim
section
variable{i v:AV}{j y:am}{adr:au}{ob:Obj}{p:Nat}{K:St->Prop}{Q:e7->ar->Prop}(R:RF F ct.aR G ρ σ s)(jI:ρ[p]?=af adr)(h1:s.heap.get? adr=af ob)(hq:∀bZ s',RF F ct.aR G ρ bZ s'->K bZ->Q () s')(vi:VR G ρ i j)(vv:VR G ρ v y)
include R jI h1 hq vi vv
theorem acp{xs:ae AV}{vals:bD am}(hl:iX ob vals)(hv:bI G ρ xs vals.toList)(h:j5 i λ n=>gL n xs.length (K (σ.put p (.lst (setAt xs n.toNat v))))):aH (aE P.prog P.w) F.A (eP (.ref adr) j y) Q dq s:=
 h.u (Q:=λ j=>aH (aE P.prog P.w) F.A (eP (.ref adr) j y) Q dq s) vi λ n t h=>h.u λ b0 b1 b2 h=>set_plain (hl.plain h1) b0 (dk b2 (by decide)) ((bf.symm.trans hv.length).symm▸b1) λ h' L' sb=>(iX.of L').elim λ o' z=>
  hq _ _ (R.rj (vR:= .lst _) (s':={s with heap:=h'}) jI z.1 ⟨_,z.2,by rw[xv,Dg]; exact hv.set vv⟩ (λ b o n e=>sb.extBut b o n e) ⟨rfl,rfl,rfl⟩) h
theorem YV{xs:ae Int}{vals:bD am}(hl:iX ob vals)(hv:cw xs vals.toList)(h:j5 i λ n=>j5 v λ m=>gL n xs.length (K (σ.put p (.il (setInt xs n.toNat m))))):aH (aE P.prog P.w) F.A (eP (.ref adr) j y) Q dq s:=
 h.u (Q:=λ j=>aH (aE P.prog P.w) F.A (eP (.ref adr) j y) Q dq s) vi λ n t h=>h.u (Q:=λ y=>aH (aE P.prog P.w) F.A (eP (.ref adr) (.int n t) y) Q dq s) vv λ m t' h=>h.u λ b0 b1 b2 h=>
  set_plain (hl.plain h1) b0 (dk b2 (by decide)) ((bf.symm.trans hv.length).symm▸b1) λ h' L' sb=>(iX.of L').elim λ o' z=>
  hq _ _ (R.rj (vR:= .il _) (s':={s with heap:=h'}) jI z.1 ⟨_,z.2,by rw[xv,qC]; exact hv.set⟩ (λ b o n e=>sb.extBut b o n e) ⟨rfl,rfl,rfl⟩) h
theorem setB{bs:ae bX}(e:ob=nC bs)(h:j5 i λ n=>j5 v λ m=>gL n bs.length (need (0<=m/\m < 256/\bs.length < 1000000) (K (σ.put p (.ba (bs.set n.toNat (eC m.toNat))))))):aH (aE P.prog P.w) F.A (eP (.ref adr) j y) Q dq s:=
 h.u (Q:=λ j=>aH (aE P.prog P.w) F.A (eP (.ref adr) j y) Q dq s) vi λ n t h=>h.u (Q:=λ y=>aH (aE P.prog P.w) F.A (eP (.ref adr) (.int n t) y) Q dq s) vv λ m t' h=>h.u λ b0 b1 b2 h=>h.u λ c h=>
  J_ (h1.trans (ah af e)) b0 (dk b2 (by decide)) b1 c.1 c.2.1 (aF (eU c.2.2) (by decide)) λ h' e1 e2=>hq _ _ (R.rj (vR:= .ba _) (s':={s with heap:=h'}) jI e1 rfl e2 ⟨rfl,rfl,rfl⟩) h
theorem YT{es:bD bi}{ep:Nat}{ks:ae Int}{us:ae am}{vs:ae AV}(hc:ob.ExactDict)(hd:ob.data= .dict es ep)(hk:xH ks es.toList us)(hv:bI G ρ vs us)(hn:ks.Nodup)
  (h:j5 i λ n=>cJ (bB ks.length 1000) (K (σ.put p (.iM (p_ ks n) (C5 ks vs n v))))):aH (aE P.prog P.w) F.A (eP (.ref adr) j y) Q dq s:=
 h.u (Q:=λ j=>aH (aE P.prog P.w) F.A (eP (.ref adr) j y) Q dq s) vi λ n t h=>h.u λ kz h=>by
  have p3:=(hk.pairs (prog:=P.prog) (w:=P.w)).2.2
  have RP:((ks.zip us).map (·.1)).Nodup:=(g_ (aT p3.symm)).symm▸hn
  have hlen:(ks.zip us).length<=f6:=aF (List.length_zip▸Nat.min_le_left _ _) (aF (aP kz) (by decide))
  have z:=IS (n:=n) hv p3 vv
  refine wpAny_setItem_pairs (hsz:=hlen) (show(cD P.prog P.w).is n (.int n t)=true from isInt_self (t:=t)) (xH.dict h1 hc hd hk hn) λ h' D' sb=>?_
  rw[show th (ks.zip us) n y=_ from vl n (λ kv=>(kv.1,y)) (n,y) _ RP] at D'
  exact D'.elim λ o' D'=>D'.elim λ A0 D'=>D'.elim λ Jw D'=>hq _ _ (R.rj (vR:= .iM _ _) (s':={s with heap:=h',toks:=s.toks+1}) jI D'.1 ⟨D'.2.1,A0,Jw,_,D'.2.2.1,z.1▸xH.of D'.2.2.2.2.1 λ e he=>D'.2.2.2.1 e (gF.mp he),z.2,(ut hn).1⟩ (λ b o n e=>sb.extBut b o n e) ⟨rfl,rfl,rfl⟩) h
theorem YU(O:gH P ct F){es:bD bi}{ep:Nat}{ks:ae (ae Int)}{us:ae am}{vs:ae AV}(hc:ob.ExactDict)(hd:ob.data= .dict es ep)(hk:pw G ks es.toList us)(hv:bI G ρ vs us)(hn:ks.Nodup)
  (h:CW i λ k=>cJ (bB ks.length 1000) (K (σ.put p (.bG (rc ks k) (wN ks vs k v))))):aH (aE P.prog P.w) F.A (eP (.ref adr) j y) Q dq s:=
 (sM vi h).elim λ k q=>q.elim λ ka q=>q.2.2.u λ kz h=>(hk.rows (prog:=P.prog) (w:=P.w)).elim λ xs e=>q.1.symm▸by
  have RP:(xs.map (·.1)).Nodup:=e.1.symm▸hn
  have hlen:xs.length<=f6:=aF (aT ((bJ (f:=λ x:ae Int×au×am=>x.1) (as:=xs)).symm.trans (ah fU e.1))) (aF (aP kz) (by decide))
  have z:=IU (n:=k) (a:=ka) e.1 (e.2.1.symm▸hv) vv
  refine wpAny_setItem_heap (hsz:=hlen) (Sf O) (q.2.1.key R.rm.kg) (⟨ob,es,ep,h1,hc,hd,e.2.2.1,λ x hx=>(e.2.2.2 x hx).key R.rm.kg,RP⟩:s.heap.DictOfH (g5 (cD P.prog P.w)) adr xs) λ h' D' sb=>?_
  rw[Fn RP] at D'
  exact D'.elim λ o' D'=>D'.elim λ A0 D'=>D'.elim λ Jw D'=>hq _ _ (R.rj (vR:= .bG _ _) (s':={s with heap:=h',toks:=s.toks+(g5 (cD P.prog P.w)).draws k}) jI D'.1 ⟨D'.2.1,A0,Jw,_,D'.2.2.1,z.1▸D'.2.2.2.1▸pw.of λ x hx=>(z.2.2 x hx).elim (λ w=>w.1▸w.2▸q.2.1) λ w=>w.elim λ x' w=>w.2.1▸w.2.2▸e.2.2.2 x' w.1,z.2.1,(C4 hn).1⟩ (λ b o n e=>sb.extBut b o n e) ⟨rfl,rfl,rfl⟩) h
end
theorem Fi{o:AO}{i v:AV}{j y:am}{adr:au}{ob:Obj}{p:Nat}{K:St->Prop}{Q:e7->ar->Prop}(O:gH P ct F)(R:RF F ct.aR G ρ σ s)(jI:ρ[p]?=af adr)(h1:s.heap.get? adr=af ob)(q:OR G ρ o ob)(vi:VR G ρ i j)(vv:VR G ρ v y)(h:YW o p i v σ K)
  (hq:∀bZ s',RF F ct.aR G ρ bZ s'->K bZ->Q () s'):aH (aE P.prog P.w) F.A (eP (.ref adr) j y) Q dq s:=by
 rcases o with _|_|_|_|_|_|_|_
 case lst=>exact aD q λ vs q=>acp R jI h1 hq vi vv q.1 q.2 h
 case il=>exact aD q λ vs q=>YV R jI h1 hq vi vv q.1 q.2 h
 case iM=>exact(f4 q).elim λ es z=>z.elim λ ep z=>z.elim λ us z=>YT R jI h1 hq vi vv (eD q) z.1 z.2.1 z.2.2.1 z.2.2.2 h
 case bG=>exact(f4 q).elim λ es z=>z.elim λ ep z=>z.elim λ us z=>YU R jI h1 hq vi vv O (eD q) z.1 z.2.1 z.2.2.1 z.2.2.2 h
 case ba=>exact setB R jI h1 hq vi vv q h
 all_goals exact h.elim
theorem Fh{a i v:AV}{u j y:am}{K:St->Prop}{Q:e7->ar->Prop}(O:gH P ct F)(R:RF F ct.aR G ρ σ s)(va:VR G ρ a u)(vi:VR G ρ i j)(vv:VR G ρ v y)(h:I3 a i v σ K)
  (hq:∀bZ s',RF F ct.aR G ρ bZ s'->K bZ->Q () s'):aH (aE P.prog P.w) F.A (eP u j y) Q dq s:=
 lA.u (Q:=λ a=>VR G ρ a u->aH (aE P.prog P.w) F.A (eP u j y) Q dq s) h (λ p h va=>va.P8 (Q:=λ u=>aH (aE P.prog P.w) F.A (eP u j y) Q dq s) λ adr ha=>pB.u h λ o e h=>(R.rm.obj p adr o ha ((eI ..).symm.trans e)).elim λ ob z=>Fi O R ha z.1 z.2 vi vv h hq) va
end
section
variable{P:cC}{ct:Ct}
theorem E9{c:Int×Int}:∀{q:ae (Int×Int)} {i:Nat} {r:ae Int},qZ q r->VQ q i=af c->i < r.length/\c.1<=intAt r i/\intAt r i<=c.2
 |[],_,_=>λ aa h=>cu h
 |q::qs,0,_=>λ g h=>g.uc (Q:=λ r=>0 < r.length/\c.1<=intAt r 0/\intAt r 0<=c.2) λ x xs h1 h2 aa=>ak h▸⟨pt _,h1,h2⟩
 |q::qs,i+1,_=>λ g h=>g.uc (Q:=λ r=>i+1 < r.length/\c.1<=intAt r (i+1)/\intAt r (i+1)<=c.2) λ x xs aa aa g=>(E9 (i:=i) g h).imp_left f5
theorem qZ.cons{q:Int×Int}{qs:ae (Int×Int)}{x:Int}{xs:ae Int}(h:q.1<=x)(k:x<=q.2)(r:qZ qs xs):qZ (q::qs) (x::xs):=⟨x,xs,rfl,h,k,r⟩
theorem Hg{c:Int×Int}{x:Int}(h:c.1<=x)(h':x<=c.2):∀{q:ae (Int×Int)} {i:Nat} {r:ae Int},qZ q r->qZ (Qe q i c) (setInt r i x)
 |[],_,_=>λ g=>g.u0 (Q:=λ r=>qZ [] (setInt r _ x)) rfl
 |q::qs,0,_=>λ g=>g.uc (Q:=λ r=>qZ (c::qs) (setInt r 0 x)) λ aa aa aa aa g=> .cons h h' g
 |q::qs,i+1,_=>λ g=>g.uc (Q:=λ r=>qZ (q::Qe qs i c) (setInt r (i+1) x)) λ aa aa h1 h2 g=> .cons h1 h2 (Hg h h' g)
abbrev acD:ae Int->ae TV->Int->aq TV:=ES KH
abbrev Nf:ae Int->ae TV->Int->TV->ae TV:=jS KH
abbrev acC:ae (ae Int)->ae TV->ae Int->aq TV:=ES si
abbrev Vj:ae (ae Int)->ae TV->ae Int->TV->ae TV:=jS si
theorem ll{t:TV}{v a:AV}(g:GV t a)(e:t= .ex v):a=v:=(e▸g:GV (.ex v) a)
theorem GS.at{s:AS}{σ:St}{p:Nat}{o x:TO}(gs:GS s σ)(h:gR s.mem p=af o)(e:o=x):∃o',bK σ.mem p=af o'/\GO σ.mem x o':=gs.mem.get p x (h.trans (ah af e))
theorem GS.vs{s:AS}{σ:St}{p:Nat}{o x:TO}{α:Type}{f:α->AO}{R:α->Prop}(gs:GS s σ)(h:gR s.mem p=af o)(e:o=x)(k:∀o',GO σ.mem x o'->∃us,o'=f us/\R us):∃us,bK σ.mem p=af (f us)/\R us:=
 (gs.at h e).elim λ o' z=>(k o' z.2).imp λ aa=> .imp_left λ q=>z.1.trans (ah af q)
theorem mz{a b:Nat}(h:fK a b=true):a < b:=aP h
abbrev t4(t i:TV)(s:AS)(u:TV):Prop:=∀a b σ,GV t a->GV i b->GS s σ->∃v,GV u v/\∀K:AV->Prop,K v->Ir a b σ.mem K
noncomputable def zZ(n:Int):aC:=decide (0<=n/\n < 4611686018427387904)
theorem jP{n:Int}{l:Nat}{k:Prop}(h:zZ n=true)(hl:n.toNat < l)(hk:k):gL n l k:=have h:=a4 h; Te ⟨h.1,(mR h.1).mp hl,h.2⟩ hk
def gIl(t i:TV)(s:AS):aq {u:TV // t4 t i s u}:=ob (nK t) λ p=>ob (lg i) λ n=>jK (gR s.mem p.1) λ o ho=>ob (oIl o) λ q=>bE (zZ n.1) λ hn=>jK (VQ q.1 n.1.toNat) λ c hc=>af ⟨R5 c,λ a b σ ga gb gs=>
 (gs.vs ho q.2 λ aa z=>z).elim λ r z=>have w:=E9 z.2 hc; ⟨.int (intAt r n.1.toNat),tL w.2.1 w.2.2,λ K k=>(ll ga p.2).symm▸(ll gb n.2).symm▸dF z.1 (jP hn w.1 k)⟩⟩
def aaW(t i:TV)(s:AS):aq {u:TV // t4 t i s u}:=ob (nK t) λ p=>ob (lg i) λ n=>jK (gR s.mem p.1) λ o ho=>ob (oLst o) λ q=>bE (zZ n.1) λ hn=>jK (Q0 q.1 n.1.toNat) λ u hu=>af ⟨u,λ a b σ ga gb gs=>
 (gs.vs ho q.2 λ aa z=>z).elim λ r z=>(tV z.2 hu).elim λ v w=>⟨v,w.2.2,λ K k=>(ll ga p.2).symm▸(ll gb n.2).symm▸dF z.1 (jP hn (jp w.1) (w.2.1.symm▸k))⟩⟩
def aaU(t i:TV)(s:AS):aq {u:TV // t4 t i s u}:=ob (nK t) λ p=>ob (lg i) λ n=>jK (gR s.mem p.1) λ o ho=>ob (Yh o) λ q=>jK (acD q.1.1 q.1.2 n.1) λ u hu=>af ⟨u,λ a b σ ga gb gs=>
 (gs.vs ho q.2 λ aa z=>z).elim λ r z=>(z7 z.2 hu).elim λ v w=>⟨v,w.2,λ K k=>(ll ga p.2).symm▸(ll gb n.2).symm▸dF z.1 (r8 w.1 k)⟩⟩
def gRw(t i:TV)(s:AS):aq {u:TV // t4 t i s u}:=ob (tRw t) λ q=>ob (lg i) λ n=>bE (zZ n.1) λ hn=>jK (VQ q.1 n.1.toNat) λ c hc=>af ⟨R5 c,λ a b σ ga gb gs=>
 aD (q.2▸ga:GV (.rw q.1) a) λ r z=>have w:=E9 z.2 hc; ⟨.int (intAt r n.1.toNat),tL w.2.1 w.2.2,λ K k=>z.1.symm▸(ll gb n.2).symm▸jP hn w.1 k⟩⟩
def aaX(t i:TV)(s:AS):aq {u:TV // t4 t i s u}:=ob (Vg t) λ q=>ob (lg i) λ n=>bE (zZ n.1&&fK n.1.toNat q.1.length) λ hn=>af ⟨.ex (.int (intAt q.1 n.1.toNat)),λ a b σ ga gb gs=>
 ⟨_,rfl,λ K k=>(ll ga q.2).symm▸(ll gb n.2).symm▸jP (aG hn).1 (mz (aG hn).2) k⟩⟩
def M_(t:TV):aq {k:ae Int // ∀b,GV t b->∀K:ae Int->Prop,K k->CW b K}:=ob (toAV t) λ a=>ob (kT a.1) λ k=>af ⟨k.1,λ b gb K z=>(a.2 _ gb).symm▸k.2 K z⟩
def aaV(t i:TV)(s:AS):aq {u:TV // t4 t i s u}:=ob (nK t) λ p=>ob (M_ i) λ n=>jK (gR s.mem p.1) λ o ho=>ob (oDct o) λ q=>jK (acC q.1.1 q.1.2 n.1) λ u hu=>af ⟨u,λ a b σ ga gb gs=>
 (gs.vs ho q.2 λ aa z=>z).elim λ r z=>(z7 z.2 hu).elim λ v w=>⟨v,w.2,λ K k=>(ll ga p.2).symm▸dF z.1 (n.2 b gb _ (r8 w.1 k))⟩⟩
def W1(a i:AV)(m:ae AO):aq {v:AV // ∀K:AV->Prop,K v->Ir a i m K}:=match a with
 | .own p=>jK (bK m p) λ o ho=>match o,ho with
  | .bG ks vs,ho=>ob (kT i) λ k=>jK (wB ks vs k.1) λ v hv=>af ⟨v,λ K z=>dF ho (k.2 _ (r8 hv z))⟩
  |_,_=>none
 | .bG ks vs=>ob (kT i) λ k=>jK (wB ks vs k.1) λ v hv=>af ⟨v,λ K z=>k.2 _ (r8 hv z)⟩
 | .lst xs=>match i with
  | .int n=>bE (zZ n&&fK n.toNat xs.length) λ h=>af ⟨fy xs n.toNat,λ K z=>jP (aG h).1 (mz (aG h).2) z⟩
  |_=>none
 | .tup xs=>match i with
  | .int n=>bE (zZ n&&fK n.toNat xs.length) λ h=>af ⟨fy xs n.toNat,λ K z=>jP (aG h).1 (mz (aG h).2) z⟩
  |_=>none
 |_=>none
def gEx(t i:TV)(s:AS):aq {u:TV // t4 t i s u}:=ob (toAV t) λ a=>ob (toAV i) λ b=>ob (toSt s) λ σ=>ob (W1 a.1 b.1 σ.1.mem) λ v=>af ⟨.ex v.1,λ a' b' bZ ga gb gs=>⟨v.1,rfl,λ K z=>(a.2 _ ga).symm▸(b.2 _ gb).symm▸(σ.2 _ gs).symm▸v.2 K z⟩⟩
def Wd(t i:TV)(s:AS):aq {u:TV // t4 t i s u}:=oe (gIl t i s) (oe (gRw t i s) (oe (aaU t i s) (oe (aaX t i s) (oe (aaW t i s) (oe (aaV t i s) (gEx t i s))))))
abbrev ye(t i x:TV)(s s':AS):Prop:=∀a b v σ,GV t a->GV i b->GV x v->GS s σ->∃bZ,GS s' bZ/\∀K:St->Prop,K bZ->I3 a b v σ K
def pIl(t i x:TV)(s:AS):aq {s':AS // ye t i x s s'}:=ob (nK t) λ p=>ob (lg i) λ n=>jK (l6 x) λ c hc=>jK (gR s.mem p.1) λ o ho=>ob (oIl o) λ q=>bE (zZ n.1&&fK n.1.toNat q.1.length) λ hn=>af ⟨s.put p.1 (.il (Qe q.1 n.1.toNat c)),λ a b v σ ga gb gv gs=>
 (gs.vs ho q.2 λ aa z=>z).elim λ r z=>l6.u (Q:=λ v=>∃bZ,GS (s.put p.1 (.il (Qe q.1 n.1.toNat c))) bZ/\∀K:St->Prop,K bZ->I3 a b v σ K) hc gv λ j j0 j1=>
  ⟨σ.put p.1 (.il (setInt r n.1.toNat j)),⟨gs.loc,gs.mem.set (o:= .il q.1) (ho.trans (ah af q.2)) rfl ⟨_,rfl,Hg j0 j1 z.2⟩ (.inl rfl)⟩,λ K k=>(ll ga p.2).symm▸(ll gb n.2).symm▸dF z.1 (jP (aG hn).1 (z.2.len▸mz (aG hn).2) k)⟩⟩
def aca(t i x:TV)(s:AS):aq {s':AS // ye t i x s s'}:=ob (nK t) λ p=>ob (lg i) λ n=>jK (gR s.mem p.1) λ o ho=>ob (oLst o) λ q=>bE (zZ n.1&&fK n.1.toNat q.1.length) λ hn=>af ⟨s.put p.1 (.lst (sv q.1 n.1.toNat x)),λ a b v σ ga gb gv gs=>
 (gs.vs ho q.2 λ aa z=>z).elim λ r z=>⟨σ.put p.1 (.lst (setAt r n.1.toNat v)),⟨gs.loc,gs.mem.set (o:= .lst q.1) (ho.trans (ah af q.2)) rfl ⟨_,rfl,dD.Ap gv z.2⟩ (.inl rfl)⟩,λ K k=>
  (ll ga p.2).symm▸(ll gb n.2).symm▸dF z.1 (jP (aG hn).1 (z.2.len▸mz (aG hn).2) k)⟩⟩
def ab9(t i x:TV)(s:AS):aq {s':AS // ye t i x s s'}:=ob (nK t) λ p=>ob (lg i) λ n=>jK (gR s.mem p.1) λ o ho=>ob (Yh o) λ q=>bE (bB q.1.1.length 1000&&a_ q.1.1.length q.1.2.length) λ hn=>af ⟨s.put p.1 (.iM (p_ q.1.1 n.1) (Nf q.1.1 q.1.2 n.1 x)),λ a b v σ ga gb gv gs=>
 (gs.vs ho q.2 λ aa z=>z).elim λ r z=>⟨σ.put p.1 (.iM (p_ q.1.1 n.1) (C5 q.1.1 r n.1 v)),⟨gs.loc,gs.mem.set (o:= .iM q.1.1 q.1.2) (ho.trans (ah af q.2)) rfl ⟨_,rfl,qa gv (aL (aG hn).2) z.2⟩ (.inl rfl)⟩,λ K k=>
  (ll ga p.2).symm▸(ll gb n.2).symm▸dF z.1 (cJ.i (aG hn).1 k)⟩⟩
def ab_(t i x:TV)(s:AS):aq {s':AS // ye t i x s s'}:=ob (nK t) λ p=>ob (M_ i) λ n=>jK (gR s.mem p.1) λ o ho=>ob (oDct o) λ q=>bE (bB q.1.1.length 1000&&a_ q.1.1.length q.1.2.length) λ hn=>af ⟨s.put p.1 (.bG (rc q.1.1 n.1) (Vj q.1.1 q.1.2 n.1 x)),λ a b v σ ga gb gv gs=>
 (gs.vs ho q.2 λ aa z=>z).elim λ r z=>⟨σ.put p.1 (.bG (rc q.1.1 n.1) (wN q.1.1 r n.1 v)),⟨gs.loc,gs.mem.set (o:= .bG q.1.1 q.1.2) (ho.trans (ah af q.2)) rfl ⟨_,rfl,qa gv (aL (aG hn).2) z.2⟩ (.inl rfl)⟩,λ K k=>
  (ll ga p.2).symm▸dF z.1 (n.2 b gb _ (cJ.i (aG hn).1 k))⟩⟩
def Yi(m:ae AO)(p:Nat):aq {c:ae (ae Int)×ae AV // bK m p=af (.bG c.1 c.2)}:=jK (bK m p) λ o ho=>match o,ho with
 | .bG ks vs,ho=>af ⟨(ks,vs),ho⟩
 |_,_=>none
noncomputable def ab7(a:AV):aq {p:Nat // a= .own p}:=match a with
 | .own p=>af ⟨p,rfl⟩
 |_=>none
def pEx(t i x:TV)(s:AS):aq {s':AS // ye t i x s s'}:=ob (toAV t) λ a=>ob (toAV i) λ b=>ob (toAV x) λ c=>ob (toSt s) λ σ=>ob (ab7 a.1) λ p=>ob (Yi σ.1.mem p.1) λ d=>ob (kT b.1) λ k=>bE (bB d.1.1.length 1000) λ hn=>
 ob (Ym (σ.1.put p.1 (.bG (rc d.1.1 k.1) (wN d.1.1 d.1.2 k.1 c.1)))) λ s'=>af ⟨s'.1,λ a' b' v' bZ ga gb gv gs=>⟨_,s'.2,λ K z=>((a.2 _ ga).trans p.2).symm▸(b.2 _ gb).symm▸(c.2 _ gv).symm▸(σ.2 _ gs).symm▸dF d.2 (k.2 _ (cJ.i hn z))⟩⟩
def Wg(t i x:TV)(s:AS):aq {s':AS // ye t i x s s'}:=oe (pIl t i x s) (oe (aca t i x s) (oe (ab9 t i x s) (oe (ab_ t i x s) (pEx t i x s))))
def Fz(o i:SE P ct)(p:c7):SE P ct where
 bA:= .Subscript o.bA i.bA p
 run:=λ σ K=>o.run σ λ a aI=>i.run aI λ b aU=>Ir a b aU.mem λ v=>K v aU
 b_:=vg 1 i.bA&&(o.b_&&i.b_)
 star:=λ aa aa=>rfl
 ok:=λ c F G ρ σ s Kv O R h=>X.Subscript (SE.then o i (aG (aG c).2).1 (aG (aG c).2).2 O R h λ G' ρ' a b u v bZ s' g x R' va vb k=>(Ez O R' va vb k).elim λ T z=>z.elim λ id z=>Cu g x (tail_any z.1 z.2.1 z.2.2 ((Hr (aG c).1).1 _ _)))
 ab:=Rq o.ab i.ab λ t u s=>ob (Wd t u s) λ x=>af [(x.1,s)]
 cN:=λ fo=>rK fo λ t u s outs a b σ h ga gb gs=>ob.u h λ x aa h=>(x.2 a b σ ga gb gs).elim λ v k=>D2.one h k.1 gs λ K z=>k.2 _ z
theorem Vb{e o i:aB}{p:c7}{l:Nat}{env:Env}:oy e (af (.Subscript o i p)) l env=pure false:=by
 rcases e with _|_|_|_|_|_|_|_|_|_|_|_|_|_|_|_|_|_|_|_|_|_|_|_|_|_|_
 all_goals rfl
def Sk(o i:SE P ct)(p':c7)(e:SE P ct)(p:c7):SX P ct where
 bA:= .Assign [.Subscript o.bA i.bA p'] e.bA p
 run:=λ σ K=>e.run σ λ v aI=>o.run aI λ a aU=>i.run aU λ b dz=>I3 a b v dz λ qi=>K .d7 qi
 b_:=e.b_&&(o.b_&&i.b_)
 ok:=λ c F G ρ σ s Kv O R h=>X.tt Vb (X.mono (e.ok (aG c).1 F G ρ σ s _ O R h) λ v s₁ z=>z.u λ dU c6 av aI fG fb dQ vv bH=>SE.then o i (aG (aG c).2).1 (aG (aG c).2).2 O dQ bH λ G' ρ' a b u w bZ s' g x R' va vb k=>
   X.any (Fh O R' va vb (vv.up g x) k λ I_ s'' AW k=>PF.d7 (fG.trans g) (fb.trans x) AW k))
 ab:=λ s=>bO (e.ab s) λ x s=>bO (o.ab s) λ t s=>bO (i.ab s) λ u s=>ob (Wg t u x s) λ s'=>af [(.d7,s'.1)]
 cN:=λ fo s outs h σ gs=>(e.cN fo).bind h gs λ x s l h v σ gv gs=>(o.cN fo).bind h gs λ t s l h a σ ga gs=>(i.cN fo).bind h gs λ u s l h b σ gb gs=>ob.u h λ s' aa h=>(s'.2 a b v σ ga gb gv gs).elim λ bZ k=>D2.one h rfl k.1 λ K z=>k.2 _ z
end
theorem n8{Q Q':am->ar->Prop}(h:∀v s,Q v s->Q' v s):∀r s,G7 Q r s->G7 Q' r s:=λ r s z=>by
 rcases r with _|(_|_|_|_)
 case ok.ret=>exact h _ _ z
 all_goals exact z.elim
theorem WQ.mono{G:BM}{ρ:ae au}{s s':ar}{K K':AV->ae AO->Prop}(k:∀a m,K a m->K' a m){v:am}(h:WQ G ρ s K v s'):WQ G ρ s K' v s':=by
 rcases h with⟨_,_,_,_,h,a,b,c,d⟩
 exact⟨_,_,_,_,⟨h.1,h.2.1,h.2.2.1,h.2.2.2.1,k _ _ h.2.2.2.2⟩,a,b,c,d⟩
theorem WC.mono{P:cC}{f:au}{dr:ae AV}{mem:ae AO}{K K':AV->ae AO->Prop}(h:WC P f dr mem K)(k:∀a m,K a m->K' a m):WC P f dr mem K':=
 ⟨λ A G ρ s vs r p m v=>X.eh (h.run A G ρ s vs r p m v) (n8 λ aa aa=>WQ.mono k)⟩
structure cC.Le(P Q:cC):Prop where
 prog:P.prog=Q.prog
 w:P.w=Q.w
 d:P.d<=Q.d
 j:P.j=false\/P.j=Q.j
 i7:∀G,Q.Φ G->P.Φ G
theorem cC.Le.code{P Q:cC}(x:P.Le Q){A:bn}{c:vC}{R:iP->ar->Prop}{s:ar}(h:dO P.j (aE P.prog P.w) A c R s):dO Q.j (aE Q.prog Q.w) A c R s:=
 x.prog▸x.w▸x.j.elim (λ j=>X.BL (X.Ih (j▸h))) λ j=>j▸h
theorem WC.up{P Q:cC}(x:P.Le Q){f:au}{dr:ae AV}{mem:ae AO}{K:AV->ae AO->Prop}(h:WC P f dr mem K):WC Q f dr mem K:=
 ⟨λ A G ρ s vs r p m v=>x.code (h.run A G ρ s vs (r.less x.d) (x.i7 G p) m v)⟩
mutual
noncomputable def el(f:Nat->Nat):AV->AV
 | .own i=> .own (f i)
 | .tup xs=> .tup (ei f xs)
 | .lst xs=> .lst (ei f xs)
 | .inst C ks vs=> .inst C ks (ei f vs)
 | .undef=> .undef
 | .none=> .none
 | .bool b=> .bool b
 | .int i=> .int i
 | .kq b=> .kq b
 | .val v=> .val v
 | .fn a=> .fn a
 | .ly x=> .ly x
 | .oH x=> .oH x
 | .row x=> .row x
 | .any=> .any
 | .j6 a b c=> .j6 a b c
 | .iM ks vs=> .iM ks (ei f vs)
 | .bG ks vs=> .bG ks (ei f vs)
noncomputable def ei(f:Nat->Nat):ae AV->ae AV
 |[]=>[]
 |v::r=>el f v::ei f r
end
def la(f:Nat->Nat):AO->AO
 | .lst xs=> .lst (ei f xs)
 | .inst C j=> .inst C (f j)
 | .ns ks vs=> .ns ks (ei f vs)
 | .iM ks vs=> .iM ks (ei f vs)
 | .bG ks vs=> .bG ks (ei f vs)
 | .il ns=> .il ns
 | .ba bs=> .ba bs
 | .tab=> .tab
section
variable{G:BM}{ρ ρ':ae au}{f:Nat->Nat}
theorem Ml{i j:Nat}{v:am}(h:∀a,ρ[i]?=af a->ρ'[j]?=af a):(∃a,ρ[i]?=af a/\v= .ref a)->∃a,ρ'[j]?=af a/\v= .ref a:= .imp λ a=> .imp_left (h a)
mutual
theorem VR.eQ(h:∀i a,ρ[i]?=af a->ρ'[f i]?=af a):∀(a:AV) {v:am},VR G ρ a v->VR G ρ' (el f a) v
 | .own i,_=>Ml (h i)
 | .tup xs,_=>Nl (dC.refl G) λ aa aa=> .imp_right (bI.eQ h xs)
 | .lst xs,_=>Nl (dC.refl G) λ aa aa=> .imp_right (bI.eQ h xs)
 | .inst _ _ us,_=>AE (dC.refl G) λ aa=>bI.eQ h us
 | .iM _ us,_=>Sw (dC.refl G) λ aa aa aa aa aa=> .imp_right<| .imp_right<| .imp_right<| .imp_left (bI.eQ h us)
 | .bG _ us,_=>Sw (dC.refl G) λ aa aa aa aa aa=> .imp_right<| .imp_right<| .imp_right<| .imp_left (bI.eQ h us)
 | .undef,_=>id
 | .none,_=>id
 | .bool _,_=>id
 | .int _,_=>id
 | .kq _,_=>id
 | .val _,_=>id
 | .fn _,_=>id
 | .ly _,_=>id
 | .oH _,_=>id
 | .row _,_=>id
 | .any,_=>id
 | .j6 _ _ _,_=>id
theorem bI.eQ(h:∀i a,ρ[i]?=af a->ρ'[f i]?=af a):∀(as:ae AV) {vs:ae am},bI G ρ as vs->bI G ρ' (ei f as) vs
 |[],_=>id
 |v::r,_=> .imp λ aa=> .imp λ aa=> .imp_right<| .imp (VR.eQ h v) (bI.eQ h r)
end
mutual
theorem VR.lD(h:∀i a,ρ'[f i]?=af a->ρ[i]?=af a):∀(a:AV) {v:am},VR G ρ' (el f a) v->VR G ρ a v
 | .own i,_=>Ml (h i)
 | .tup xs,_=>Nl (dC.refl G) λ aa aa=> .imp_right (bI.lD h xs)
 | .lst xs,_=>Nl (dC.refl G) λ aa aa=> .imp_right (bI.lD h xs)
 | .inst _ _ us,_=>AE (dC.refl G) λ aa=>bI.lD h us
 | .iM _ us,_=>Sw (dC.refl G) λ aa aa aa aa aa=> .imp_right<| .imp_right<| .imp_right<| .imp_left (bI.lD h us)
 | .bG _ us,_=>Sw (dC.refl G) λ aa aa aa aa aa=> .imp_right<| .imp_right<| .imp_right<| .imp_left (bI.lD h us)
 | .undef,_=>id
 | .none,_=>id
 | .bool _,_=>id
 | .int _,_=>id
 | .kq _,_=>id
 | .val _,_=>id
 | .fn _,_=>id
 | .ly _,_=>id
 | .oH _,_=>id
 | .row _,_=>id
 | .any,_=>id
 | .j6 _ _ _,_=>id
theorem bI.lD(h:∀i a,ρ'[f i]?=af a->ρ[i]?=af a):∀(as:ae AV) {vs:ae am},bI G ρ' (ei f as) vs->bI G ρ as vs
 |[],_=>id
 |v::r,_=> .imp λ aa=> .imp λ aa=> .imp_right<| .imp (VR.lD h v) (bI.lD h r)
end
theorem OR.eQ(h:∀i a,ρ[i]?=af a->ρ'[f i]?=af a){ao:AO}{o:Obj}(q:OR G ρ ao o):OR G ρ' (la f ao) o:=by
 rcases ao with _|_|_|_|_|_|_|_
 case lst=>exact cP (λ aa=> .imp_right (bI.eQ h _)) q
 case inst=>exact cP (λ aa=> .imp_left (h _ _)) q
 case ns=>exact cP (λ aa=> .imp λ aa=> .imp λ aa=> .imp_right<| .imp_right<|bI.eQ h _) q
 case iM=>exact iN (.imp λ aa=> .imp λ aa=> .imp λ aa=> .imp_right<| .imp_right<| .imp_left<|bI.eQ h _) q
 case bG=>exact iN (.imp λ aa=> .imp λ aa=> .imp λ aa=> .imp_right<| .imp_right<| .imp_left<|bI.eQ h _) q
 all_goals exact q
theorem OR.lD(h:∀i a,ρ'[f i]?=af a->ρ[i]?=af a){ao:AO}{o:Obj}(q:OR G ρ' (la f ao) o):OR G ρ ao o:=by
 rcases ao with _|_|_|_|_|_|_|_
 case lst=>exact cP (λ aa=> .imp_right (bI.lD h _)) q
 case inst=>exact cP (λ aa=> .imp_left (h _ _)) q
 case ns=>exact cP (λ aa=> .imp λ aa=> .imp λ aa=> .imp_right<| .imp_right<|bI.lD h _) q
 case iM=>exact iN (.imp λ aa=> .imp λ aa=> .imp λ aa=> .imp_right<| .imp_right<| .imp_left<|bI.lD h _) q
 case bG=>exact iN (.imp λ aa=> .imp λ aa=> .imp λ aa=> .imp_right<| .imp_right<| .imp_left<|bI.lD h _) q
 all_goals exact q
end
noncomputable def eQ(sel:ae Nat)(n:Nat):Nat->Nat:=λ i=>go sel n i
where go:ae Nat->Nat->Nat->Nat
 |[],n,i=>n+i
 |j::_,_,0=>j
 |_::r,n,i+1=>go r n i
theorem MB:∀(sel:ae Nat) (n i j:Nat),sel[i]?=af j->eQ.go sel n i=j
 |[],_,_,_=>cu
 |_::_,_,0,_=>ak
 |_::r,n,i+1,j=>MB r n i j
theorem Mz(n i:Nat):∀sel:ae Nat,eQ.go sel n (sel.length+i)=n+i
 |[]=>ah (n+·) (fm i)
 |j::r=>(ah (eQ.go (j::r) n) (cT r.length 1 i)).trans (Mz n i r)
theorem Hh{sel:ae Nat}{n i:Nat}(h:sel.length<=i):eQ.go sel n i=n+(i - sel.length):=(ah (eQ.go sel n) (uC h).symm).trans (Mz n _ sel)
noncomputable def upd(f:Nat->Nat):ae Nat->ae AO->ae AO->ae AO
 |j::sel,o::r,M=>upd f sel r (bz M j (la f o))
 |[],r,M=>M++IY f r
 |_::_,[],M=>M
where IY (f:Nat->Nat):ae AO->ae AO
 |o::r=>la f o::IY f r
 |[]=>[]
theorem sQ(f:Nat->Nat):∀l:ae AO,upd.IY f l=l.map (la f)
 |[]=>rfl
 |o::r=>ah (la f o::·) (sQ f r)
section
variable(f:Nat->Nat)
theorem HF:∀{sel:ae Nat} {mem M:ae AO},sel.length<=mem.length->(upd f sel mem M).length=M.length+(mem.length - sel.length)
 |[],mem,M=>λ aa=>(ah (λ r=>(M++r).length) (sQ f mem)).trans (bh.trans (ah (M.length+·) (bJ _)))
 |_::_,[],_=>λ h=>bt h (ja _)
 |j::sel,o::mem,M=>λ h=>(HF (sel:=sel) (mem:=mem) (M:=bz M j (la f o)) (k5 h)).trans (congr (ah HAdd.hAdd (fF ..)) (Nat.succ_sub_succ ..).symm)
theorem tU{j:Nat}:∀{sel:ae Nat} {mem M:ae AO},j < M.length->j∉sel->(upd f sel mem M)[j]?=M[j]?
 |[],mem,M=>λ h aa=>dA h
 |_::_,[],_=>λ aa aa=>rfl
 |k::sel,o::mem,M=>λ h n=>(tU (sel:=sel) (mem:=mem) (M:=bz M k (la f o)) (io h (fF ..).symm) λ m=>n (.tail _ m)).trans
   ((eI ..).symm.trans ((dT λ(e:j=k)=>n (e▸ .head _)).trans (eI ..)))
theorem HH{ao:AO}{j:Nat}:∀{sel:ae Nat} {mem M:ae AO} {i:Nat},sel.Nodup->(∀j∈sel,j < M.length)->sel[i]?=af j->mem[i]?=af ao->(upd f sel mem M)[j]?=af (la f ao)
 |[],_,_,_=>λ aa aa h=>cu h
 |_::_,[],_,_=>λ aa aa aa h=>cu h
 |k::sel,o::mem,M,0=>λ hn hb h1 h2=>have e:k=j:=ak h1; (tU f (sel:=sel) (mem:=mem) (M:=bz M k (la f o)) (io (e▸hb k (.head _)) (fF ..).symm) (e▸(dS.mp hn).1)).trans
   ((eI ..).symm.trans (e▸(iU (hb k (.head _))).trans (ah (λ o=>af (la f o)) (ak h2))))
 |k::sel,o::mem,M,i+1=>λ hn hb h1 h2=>HH (sel:=sel) (mem:=mem) (M:=bz M k (la f o)) (i:=i) (dS.mp hn).2 (λ j hj=>io (hb j (.tail _ hj)) (fF ..).symm) h1 h2
theorem HG{i:Nat}:∀{sel:ae Nat} {mem M:ae AO},sel.length<=mem.length->(upd f sel mem M)[M.length+i]?=(mem[sel.length+i]?).map (la f)
 |[],mem,M=>λ aa=>by
  show(M++upd.IY f mem)[M.length+i]?=_
  rw[sQ,eL (bq _ _),hN,eM,List.length_nil,fm]
 |_::_,[],_=>λ h=>bt h (ja _)
 |k::sel,o::mem,M=>λ h=>(ah (λ n=>(upd f sel mem (bz M k (la f o)))[n+i]?) (fF ..).symm).trans ((HG (sel:=sel) (mem:=mem) (M:=bz M k (la f o)) (k5 h)).trans
   (ah (λ n=>((o::mem)[n]?).map (la f)) (cT sel.length i 1)))
end
noncomputable def xM(ρ:ae au)(sel:ae Nat):ae au:=sel.filterMap λ j=>ρ[j]?
theorem J5{ρ:ae au}{j:Nat}{sel:ae Nat}{a:au}(h:ρ[j]?=af a):xM ρ (j::sel)=a::xM ρ sel:=oq h
theorem zy{ρ:ae au}:∀{sel:ae Nat},(∀j∈sel,j < ρ.length)->(xM ρ sel).length=sel.length/\∀i:Nat,(xM ρ sel)[i]?=(sel[i]?).bind λ j=>ρ[j]?
 |[],_=>⟨rfl,λ i=>rfl⟩
 |j::sel,h=>by
  have z:=zy (ρ:=ρ) (sel:=sel) λ k hk=>h k (.tail _ hk)
  refine(oK (h j (.head _))).elim λ a e=>?_
  rw[J5 e]
  refine⟨ah (·+1) z.1,λ i=>?_⟩
  rcases i with _|i
  ·exact e.symm
  ·exact z.2 i
theorem Es{G:BM}{ρ:ae au}{s s':ar}{M:ae AO}{K:AV->ae AO->Prop}{v:am}{sel:ae Nat}(R:RM G ρ M s.heap)(vh:sel.Nodup)(al:(xM ρ sel).length=sel.length)(Z3:∀j∈sel,j < M.length)
  (r1:∀{i j:Nat},sel[i]?=af j->eQ sel M.length i=j) (J2:∀{i j:Nat},sel[i]?=af j->(xM ρ sel)[i]?=ρ[j]?) (uq:∀{j k:Nat} {a:au},ρ[j]?=af a->ρ[k]?=af a->j=k) (sub:∀a∈xM ρ sel,∃j∈sel,ρ[j]?=af a) (QK:∀a∈xM ρ sel,a∈ρ):
  WQ G (xM ρ sel) s K v s'->WQ G ρ s (λ av M'=>∃pf mem',K pf mem'/\av=el (eQ sel M.length) pf/\M'=upd (eQ sel M.length) sel mem' M/\sel.length<=mem'.length) v s':=by
 rintro ⟨G',c6,av,mem',⟨g,⟨τ,rfl⟩,dQ,va,hk⟩,kp,nw,gf,gz⟩
 have hl:=dQ.len
 rw[bh,al] at hl
 have ZX:sel.length<=mem'.length:=hl▸bq _ _
 have off:∀{i},sel.length<=i->eQ sel M.length i=M.length+(i - sel.length):=Hh
 have left:∀{i},i < sel.length->(xM ρ sel++τ)[i]?=(xM ρ sel)[i]?:=λ hi=>dA (al.symm▸hi)
 have right:∀{d:Nat},(xM ρ sel++τ)[sel.length+d]?=τ[d]?:=λ{d}=>(eL (al.symm▸bq _ _)).trans (ah (τ[·]?) (al.symm▸hN ..))
 have right':∀{d:Nat},(ρ++τ)[M.length+d]?=τ[d]?:=λ{d}=>(eL (R.len.symm▸bq _ _)).trans (ah (τ[·]?) (R.len.symm▸hN ..))
 have fwd:∀(i:Nat) (a:au),(xM ρ sel++τ)[i]?=af a->(ρ++τ)[eQ sel M.length i]?=af a:=λ i a e=>
  (DL i sel.length).elim (λ hi=>(oK hi).elim λ j hj=>(r1 hj).symm▸Ext.get ⟨τ,rfl⟩ ((J2 hj).symm.trans ((left hi).symm.trans e)))
   λ hi=>(off hi).symm▸right'.trans (right.symm.trans ((ah ((xM ρ sel++τ)[·]?) (uC hi)).trans e))
 have nd:=gP.mp dQ.nd
 have tn:∀a∈τ,s.heap.get? a=none:=λ a ha=>(nw a (dH _ ha)).elim (λ q=>bt rfl (nd.2.2 a q a ha)) id
 have aah:∀a∈ρ,G' a=none:=λ a ha=>none_of λ o e=>(gf a o e).elim (de (R.fr a ha)) λ q=>(R.some_of ha).elim λ aa=>de q
 have old:∀{j a ao},ρ[j]?=af a->j < M.length->(upd (eQ sel M.length) sel mem' M)[j]?=af ao->∃o,s'.heap.get? a=af o/\OR G' (ρ++τ) ao o:=λ{j a ao} hj hjl e=>
  (d0 (j∈sel)).elim (λ hs=>(lS hs).elim λ i hi=>(oK (ff (jp hi) ZX)).elim λ x hx=>
    ak ((HH _ vh Z3 hi hx).symm.trans e)▸(dQ.obj i a x ((left (jp hi)).trans ((J2 hi).trans hj)) hx).imp λ aa=> .imp_right (OR.eQ fwd))
   λ hs=>(R.obj j a ao hj ((tU _ hjl hs).symm.trans e)).imp λ o=> .imp (kp a o λ hm=>(sub a hm).elim λ k hk=>hs (uq hj hk.2▸hk.1)) (OR.up g ⟨τ,rfl⟩)
 have new:∀{d a ao},τ[d]?=af a->(upd (eQ sel M.length) sel mem' M)[M.length+d]?=af ao->∃o,s'.heap.get? a=af o/\OR G' (ρ++τ) ao o:=λ{d a ao} hj e=>
  (eH.mp ((HG _ ZX).symm.trans e)).elim λ x hx=>hx.2▸(dQ.obj _ a x (right.trans hj) hx.1).imp λ aa=> .imp_right (OR.eQ fwd)
 exact⟨G',ρ++τ,el (eQ sel M.length) av,upd (eQ sel M.length) sel mem' M,⟨g,⟨τ,rfl⟩,⟨dQ.kg,by rw[HF _ ZX,bh,R.len,← hl,hN],
   λ j a ao hj e=>(DL j M.length).elim (λ hl=>old ((dA (R.len.symm▸hl)).symm.trans hj) hl e) λ hl=>have z:=uC hl; new (right'.symm.trans ((ah ((ρ++τ)[·]?) z).trans hj)) ((ah ((upd (eQ sel M.length) sel mem' M)[·]?) z).trans e),
   gP.mpr ⟨R.nd,nd.2.1,λ a ha b hb e=>(R.some_of ha).elim λ aa=>de (tn a (e▸hb))⟩,λ a ha=>(fJ.mp ha).elim (aah a) λ ha=>dQ.fr a (dH _ ha)⟩,va.eQ fwd,av,mem',hk,rfl,rfl,ZX⟩,
  λ a o n e=>kp a o (λ hm'=>n (QK a hm')) e,λ a ha=>(fJ.mp ha).imp_right (tn a),gf,gz⟩
theorem yB{P:cC}{f:au}{dr:ae AV}{mem:ae AO}{K:AV->ae AO->Prop}(Rp:ae au->Prop)(abn:∀(A:bn) (G:BM) (ρ:ae au) (s:ar) (vs:ae am),Rp ρ->my A P.d->P.Φ G->RM G ρ mem s.heap->bI G ρ dr vs->
  dO P.j (aE P.prog P.w) A (.call (.ref f) ⟨vs,[]⟩) (G7 (WQ G ρ s K)) s) (sel:ae Nat) (M:ae AO) (vh:sel.Nodup) (len:sel.length=mem.length)
  (hm:∀(i:Nat) (j:Nat) (ao:AO),sel[i]?=af j->mem[i]?=af ao->M[j]?=af (la (eQ sel M.length) ao)) (A:bn) (G:BM) (ρ:ae au) (s:ar) (vs:ae am) (hR:Rp (xM ρ sel)) (room:my A P.d) (i7:P.Φ G) (R:RM G ρ M s.heap) (hv:bI G ρ (ei (eQ sel M.length) dr) vs):
  dO P.j (aE P.prog P.w) A (.call (.ref f) ⟨vs,[]⟩) (G7 (WQ G ρ s λ av M'=>∃pf mem',K pf mem'/\av=el (eQ sel M.length) pf/\M'=upd (eQ sel M.length) sel mem' M/\sel.length<=mem'.length)) s:=by
 have Z3:∀j∈sel,j < M.length:=λ j hj=>(lS hj).elim λ i hi=>(oK (len▸jp hi)).elim λ aa e=>jp (hm i j _ hi e)
 have ag:=zy (ρ:=ρ) λ j hj=>R.len▸Z3 j hj
 have r1:∀{i j},sel[i]?=af j->eQ sel M.length i=j:=λ{i j}=>MB sel _ i j
 have J2:∀{i j},sel[i]?=af j->(xM ρ sel)[i]?=ρ[j]?:=λ{i j} h=>(ag.2 i).trans (ah (Option.bind · λ j=>ρ[j]?) h)
 have back:∀(i:Nat) (a:au),ρ[eQ sel M.length i]?=af a->(xM ρ sel)[i]?=af a:=λ i a e=>
  (DL i sel.length).elim (λ hi=>(oK hi).elim λ j hj=>(J2 hj).trans (r1 hj▸e)) λ hi=>bt (jp e) (Nat.not_lt.mpr (aF (aT R.len) (aF (bq _ _) (aT (Hh (n:=M.length) hi).symm))))
 have sub:∀a∈xM ρ sel,∃j∈sel,ρ[j]?=af a:=λ a ha=>Jd.mp ha
 have QK:∀a∈xM ρ sel,a∈ρ:=λ a ha=>(sub a ha).elim λ aa h=>im h.2
 have uq:∀{j k a},ρ[j]?=af a->ρ[k]?=af a->j=k:=λ{j k a} h1 h2=>(nQ (jp h1) R.nd).mp (h1.trans h2.symm)
 have R₀:RM G (xM ρ sel) mem s.heap:=
  ⟨R.kg,ag.1.trans len,λ i a ao hi e=>(oK (len.symm▸jp e)).elim λ j hj=>(R.obj j a _ ((J2 hj).symm.trans hi) (hm i j ao hj e)).imp λ aa=> .imp_right (OR.lD back),
   List.Pairwise.filterMap (R:=(·≠·)) (S:=(·≠·)) (λ j=>ρ[j]?) (λ j k hjk a ha b hb (e:a=b)=>hjk (uq ha (Eq.trans hb (ah af e.symm)))) vh,λ a ha=>R.fr a (QK a ha)⟩
 exact X.eh (abn A G (xM ρ sel) s vs hR room i7 R₀ (bI.lD back _ hv)) (n8 λ v s'=>Es R vh ag.1 Z3 r1 J2 uq sub QK)
theorem WC.BS{P:cC}{f:au}{dr:ae AV}{mem:ae AO}{K:AV->ae AO->Prop}(h:WC P f dr mem K)(sel:ae Nat)(M:ae AO)(vh:sel.Nodup)(len:sel.length=mem.length)
  (hm:∀(i:Nat) (j:Nat) (ao:AO),sel[i]?=af j->mem[i]?=af ao->M[j]?=af (la (eQ sel M.length) ao)):
  WC P f (ei (eQ sel M.length) dr) M (λ av M'=>∃pf mem',K pf mem'/\av=el (eQ sel M.length) pf/\M'=upd (eQ sel M.length) sel mem' M/\sel.length<=mem'.length):=
 ⟨λ A G ρ s vs room i7 R hv=>yB (λ aa=>True) (λ A G ρ s vs aa room i7 R hv=>h.run A G ρ s vs room i7 R hv) sel M vh len hm A G ρ s vs trivial room i7 R hv⟩
section
variable(ko:bM->aq dJ){x:bM}{v:am}
theorem ym:∀{b:ae (bM×am)} (m:bM->aq am),x∉b.map (·.1)->bindL ko b m x=m x
 |[],_=>λ aa=>rfl
 |(n,w)::r,m=>λ h=>(ym _ λ z=>h (.tail _ z)).trans (by
  split
  ·exact bC λ(e:x=n)=>h (e▸ .head _)
  ·rfl)
theorem yk:∀{b:ae (bM×am)} (m:bM->aq am),x∉b.map (·.1)->bindC ko b m x=m x
 |[],_=>λ aa=>rfl
 |(n,w)::r,m=>λ h=>(yk _ λ z=>h (.tail _ z)).trans (by
  split
  ·rfl
  ·exact bC λ(e:x=n)=>h (e▸ .head _))
theorem vZ(hk:ko x=af .local):∀{b:ae (bM×am)} (m:bM->aq am),(b.map (·.1)).Nodup->(x,v)∈b->bindL ko b m x=af v
 |[],_=>λ aa h=>bt h bN
 |(n,u)::r,m=>λ hn h=>have hn:=dS.mp hn; (bW.mp h).elim
  (λ e=>by cases e; exact(ym ko _ hn.1).trans ((congrFun (dj hk) x).trans (dj rfl))) λ h=>vZ hk (b:=r) _ hn.2 h
theorem BE(hk:ko x=af .cell):∀{b:ae (bM×am)} (m:bM->aq am),(b.map (·.1)).Nodup->(x,v)∈b->bindC ko b m x=af v
 |[],_=>λ aa h=>bt h bN
 |(n,u)::r,m=>λ hn h=>have hn:=dS.mp hn; (bW.mp h).elim
  (λ e=>by cases e; exact(yk ko _ hn.1).trans ((congrFun (bC λ(z:ko x=af .local)=>nomatch hk.symm.trans z) x).trans (dj rfl))) λ h=>BE hk (b:=r) _ hn.2 h
end
noncomputable def fdO(o:Obj):d5:=match o.data with
 | .func fd=>fd
 |_=>default
noncomputable def fdOf(K:f_)(f:au):d5:=match K.lookup f with
 |some o=>fdO o
 |none=>default
structure JD(P:cC)(ct:Ct)(xs:ae bM)(dv:ae am)(body:ae fW)(fd:d5)(gb:aC:=false):Prop where
 body:fd.body= .stmts body
 scope:fd.scope.names=ct.names
 kind:fd.scope.kind= .function
 gen:fd.scope.isGenerator=gb
 co:fd.scope.isCoroutine=false
 Tb:fd.closure=[]
 glob:fd.globals=dG
 blt:fd.builtins=mq
 code:codeIn P.K fd.code fd.qualname=true
 cq:ct.cq=true->fd.code= .ref v_/\fd.qualname="scan_conditioning"/\lj P.K=true
 bind:∀(s:ar) (vals:ae am),P.K.In s.heap->vals.length+dv.length=xs.length->mN s fd ⟨vals,[]⟩ (xs.zip (vals++dv))
 names:ct.aR.Nodup
 pre:∃r,ct.aR=xs++r
 kinds:∀x∈xs,ct.names.lookup x=af .local\/ct.names.lookup x=af .cell
structure FnAt(P:cC)(ct:Ct)(f:au)(xs:ae bM)(dv:ae am)(body:ae fW):Prop where
 it:∃oc od Yq,P.K.lookup f=af (⟨oc,od, .func (fdOf P.K f),Yq⟩:Obj)
 fd:JD P ct xs dv body (fdOf P.K f)
noncomputable def fill:ae bM->ae AV->ae AV
 |_::r,v::vs=>v::fill r vs
 |_::r,[]=> .undef::fill r []
 |[],_=>[]
theorem wh{v:AV}(n:v≠ .undef):∀{aR:ae bM} {vs:ae AV} {i:Nat},(fill aR vs)[i]?=af v->vs[i]?=af v
 |_::r,w::vs,0=>id
 |_::r,w::vs,i+1=>wh n (aR:=r) (vs:=vs) (i:=i)
 |_::r,[],0=>λ h=>bt (ak h).symm n
 |_::r,[],i+1=>wh n (aR:=r) (vs:=[]) (i:=i)
 |[],vs,i=>cu
theorem room_in{a c d k e:Nat}(h:a+(c * d+c) < k)(he:e<=c):a+e+c * d < k:=aS (aF (aT (cT ..)) (aF (hF he _) (aT (Nat.add_assoc ..)))) h
theorem my.deeper{A:bn}{d:Nat}(room:my A (d+1)){env:Env}:my (A.deeper env) d:=⟨room_in (e:=1) room.1 (by decide),room_in (e:=3) room.2.1 (by decide),room.2.2⟩
def iE(K:AV->ae AO->Prop)(f:Fl)(σ:St):Prop:=match f with
 | .ret v=>K v σ.mem
 | .d7=>K .none σ.mem
section
variable{A:bn}{env:Env}{ro:aC}{G:BM}{ρ:ae au}{mem:ae AO}{s s₁:ar}{aR xs rest:ae bM}{locs as:ae AV}{us:ae am}{x:bM}{v:AV}{u:am}{i:Nat}
theorem RM.AA{P:cC}{h:Heap}{Q:Prop}(R:RM G ρ mem h)(i7:P.Φ G)(k:∀B p loose mg mb,P.K.In B->nS p loose mg mb B->(∀a o,B.get? a=af o->h.get? a=af o)->Q):Q:=
 (P.base G i7).elim λ B h=>h.elim λ p h=>h.elim λ l h=>h.elim λ mg h=>h.elim λ mb h=>k B p l mg mb h.1 h.2.1 λ a o e=>R.kg a o (h.2.2 a o e)
theorem RM.out{h:Heap}(R:RM G ρ mem h){a:au}(ha:h.get? a=none):a∉ρ:=λ hm=>(R.some_of hm).elim λ aa=>de ha
theorem J1(Lg:aR=xs++rest)(hl:us.length=xs.length)(hv:bI G ρ as us)(e:aR[i]?=af x)(e':(fill aR as)[i]?=af v)(n:v≠ .undef):∃u,VR G ρ v u/\(x,u)∈xs.zip us/\x∈xs:=
 (hv.get (wh n e')).elim λ u z=>have q:xs[i]?=af x:=(dA (io (jp z.1) hl)).symm.trans (Lg▸e)
  ⟨u,z.2,dy (i:=i) (List.getElem?_zip_eq_some.mpr ⟨q,z.1⟩),dy q⟩
theorem SY{bs:ae (bM×am)}(ic:InCallC s env.locals (bindL env.kindOf bs λ aa=>none) env.cells (bindC env.kindOf bs λ aa=>none) s₁)(hn:(bs.map (·.1)).Nodup)(hm:(x,u)∈bs)(hc:env.kindOf x=af .cell->∃c,env.cells.lookup x=af c)
  (hk:env.kindOf x=af .local\/env.kindOf x=af .cell):At env s₁.heap x u:=
 hk.imp (λ q=>⟨q,_,ic.toInCall.ns,vZ _ q _ hn hm⟩) λ q=>⟨.inl q,(hc q).imp λ c e=>⟨e,BE _ q (λ aa=>none) hn hm▸ic.cell x c e⟩⟩
theorem RF.first(R:RM G ρ mem s.heap)(kp:∀a o,s.heap.get? a=af o->s₁.heap.get? a=af o)(dead:s.heap.get? env.locals=none)(ns:∃m,s₁.heap.Ns env.locals m)
  (cell:∀x c,env.cells.lookup x=af c->c≠env.locals/\c∉ρ/\(∃v,s₁.heap.IsCell c v)/\(env.kindOf x=af .cell->G c=none)) (pY:∀x y c,env.cells.lookup x=af c->env.cells.lookup y=af c->x=y)
  (loc:∀(i:Nat) (x:bM) (v:AV),aR[i]?=af x->locs[i]?=af v->v≠ .undef->∃u,VR G ρ v u/\At env s₁.heap x u) (z:GZ s s₁):RF ⟨A,env,s.heap,ρ,G,s,ro⟩ aR G ρ ⟨locs,mem⟩ s₁:=
 ⟨R.keeps kp,ns,loc,R.yd dead,R.out dead,cell,pY,λ a o aa aa e=>kp a o e,λ a o e=>⟨o,kp a o e⟩,Ext.refl _,λ aa h=> .inl h,dC.refl _,λ aa aa e=> .inl e,z⟩
theorem RF.leave{G':BM}{ρ':ae au}{σ:St}{s':ar}{K:AV->ae AO->Prop}(dead:s.heap.get? env.locals=none)(cd:∀x c,env.cells.lookup x=af c->env.kindOf x=af .cell->ro=false->s.heap.get? c=none)(g:dC G G')(x:Ext ρ ρ')
  (R:RF ⟨A,env,s.heap,ρ,G,s,ro⟩ aR G' ρ' σ s') (va:VR G' ρ' v u) (k:K v σ.mem):WQ G ρ s K u s':=
 ⟨G',ρ',v,σ.mem,⟨g,x,R.rm,va,k⟩,λ a o n e=>R.keep a o n ⟨λ z=>de dead (z▸e),λ hr y hy hc=>de (cd y a hc hy hr) e⟩ e,R.nw,R.A2,R.gz⟩
end
theorem WC.fn1{P:cC}{ct:Ct}{f:au}{xs:ae bM}{dv:ae am}{da:ae AV}{b:SS P ct}{dr:ae AV}{mem:ae AO}{K:AV->ae AO->Prop}{fd:d5}{o:Obj}{A:bn}{G:BM}{ρ:ae au}{s:ar}{vs:ae am}(D:JD P ct xs dv b.bA fd)
  (ho:s.heap.get? f=af o) (hf:o.data= .func fd) (hK:P.K.In s.heap) (lim:s.heap.NoLimit) (hd:bI G ρ da dv) (b_:b.b_=true) (hl:dr.length+dv.length=xs.length) (h:b.run ⟨fill ct.aR (dr++da),mem⟩ (iE K)) (Lh:ct.tb=true->ρ[0]?=af dL)
  (room:my A (P.d+1)) (i7:P.Φ G) (R:RM G ρ mem s.heap) (hv:bI G ρ dr vs):dO P.j (aE P.prog P.w) A (.call (.ref f) ⟨vs,[]⟩) (G7 (WQ G ρ s K)) s:=by
 have hb:vs.length+dv.length=xs.length:=hv.length▸hl
 have hus:(vs++dv).length=xs.length:=bh.trans hb
 have Lb:(xs.zip (vs++dv)).map (·.1)=xs:=g_ (aT hus.symm)
 have ok:∀(x:bM),ct.names.lookup x=af .cell->((cellsFrom (s.heap.objs.size+1) fd.scope.names []).lookup x).isSome=true:=λ x q=>cellsFrom_some _ _ _ (.inl (D.scope▸q))
 refine X.Kk (aS (bq _ _) (b9 room.1 (by decide))) ho hf lim (codeRec_of hK D.code) D.body (D.bind s vs hK hb) D.Tb
  (λ x hx=>(D.kinds x.1 (Lb▸g7 hx)).imp (D.scope▸id) λ q=>⟨D.scope▸q,ok _ q⟩) D.co D.gen D.kind λ s₁ ic=>?_
 have dead:∀a,s.heap.objs.size<=a->s.heap.get? a=none:=λ a=>dd
 have up:∀x c,(eB fd s.heap.objs.size f).cells.lookup x=af c->s.heap.objs.size < c:=λ x c e=>ic.above x c (mem_of_lookup e)
 have hk:∀x,(eB fd s.heap.objs.size f).kindOf x=ct.names.lookup x:=λ x=>ah (·.lookup x) D.scope
 have ce:∀x,(eB fd s.heap.objs.size f).kindOf x=af .cell->∃c,(eB fd s.heap.objs.size f).cells.lookup x=af c:=λ x q=>js.mp (ok x (hk x▸q))
 refine X.mono (b.ok b_ ⟨A.deeper (eB fd s.heap.objs.size f),eB fd s.heap.objs.size f,s.heap,ρ,G,s,ct.ro⟩ G ρ _ s₁ (iE K)
  {kind:=D.kind,names:=D.scope,glob:=D.glob,blt:=D.blt,i7:=i7,vh:=D.names,ro:=rfl,cells:=λ x q=>ce x (hk x▸q),tb:=Lh,room:=room.deeper
   cq:=λ e=>have q:=D.cq e; ⟨q.1,ah (λ q:bM=>q++bR ".<locals>.") q.2.1,q.2.2⟩}
  (RF.first R ic.toInCall.keep (dead _ (cE _)) ⟨_,ic.toInCall.ns⟩ (λ x c e=>have u:=up x c e; have d:=dead c (eU u); ⟨uF u,R.out d,⟨_,ic.cell x c e⟩,λ aa=>R.yd d⟩)
   (λ x y c e e'=>name_of_addr ic.apart (mem_of_lookup e) (mem_of_lookup e')) (λ i x v e e' n=>D.pre.elim λ r hp=>(J1 hp hus (hv.append hd) e e' n).imp λ u z=>
    ⟨z.1,SY ic (Lb.symm▸(gP.mp (hp▸D.names)).1) z.2.1 (ce x) (hk x▸D.kinds x z.2.2)⟩) (ic.done.elim λ h' q=>q.elim λ tk q=>q.1▸GZ.of ⟨rfl,rfl,rfl⟩)) h) λ fl s' z=>z.u λ G' ρ' fl' bZ g x R' fr hk=>?_
 have lv:=RF.leave (K:=K) (v:=match fl' with | .ret v=>v | .d7=> .none) (u:=match fl with | .ret v=>v|_=> .none) (dead _ (cE _)) (λ x c e aa aa=>dead c (eU (up x c e))) g x R'
 rcases fl' with _|v
 ·cases(show fl= .next from fr)
  exact lv VR.none_ hk
 ·obtain⟨u,rfl,vu⟩:=fr
  exact lv vu hk
section
variable{P:cC}{ct:Ct}{f:au}{xs:ae bM}{dv:ae am}{da:ae AV}{b:SS P ct}{dr:ae AV}{mem:ae AO}{K K':AV->ae AO->Prop}
theorem WC.fn0(H:FnAt P ct f xs dv b.bA)(hd:∀G ρ,bI G ρ da dv)(b_:b.b_=true)(hl:dr.length+dv.length=xs.length)(h:b.run ⟨fill ct.aR (dr++da),mem⟩ (iE K))(A:bn)(G:BM)(ρ:ae au)(s:ar)(vs:ae am)
  (Lh:ct.tb=true->ρ[0]?=af dL) (room:my A P.up.d) (i7:P.up.Φ G) (R:RM G ρ mem s.heap) (hv:bI G ρ dr vs):dO P.j (aE P.prog P.w) A (.call (.ref f) ⟨vs,[]⟩) (G7 (WQ G ρ s K)) s:=
 R.AA (P:=P) i7 λ aa aa aa aa aa b1 b2 b3=>have hK:=b1.keeps b3; H.it.elim λ aa k=>k.elim λ aa k=>k.elim λ aa k=>WC.fn1 H.fd (hK _ _ k) rfl hK (b2.nolimit.keeps b3) (hd G ρ) b_ hl h Lh room i7 R hv
theorem WC.fn(H:FnAt P ct f xs dv b.bA)(hd:∀G ρ,bI G ρ da dv)(b_:b.b_=true)(Lh:ct.tb=false)(hl:dr.length+dv.length=xs.length)(h:b.run ⟨fill ct.aR (dr++da),mem⟩ (iE K)):WC P.up f dr mem K:=
 ⟨λ A G ρ s vs=>WC.fn0 H hd b_ hl h A G ρ s vs λ e=>ay (Lh.symm.trans e)⟩
structure pa(P:cC)(f:au)(dr:ae AV)(mem:ae AO)(K:AV->ae AO->Prop):Prop where
 run:∀(A:bn) (G:BM) (ρ:ae au) (s:ar) (vs:ae am),ρ[0]?=af dL->my A P.d->P.Φ G->RM G ρ mem s.heap->bI G ρ dr vs->
  dO P.j (aE P.prog P.w) A (.call (.ref f) ⟨vs,[]⟩) (G7 (WQ G ρ s K)) s
theorem pa.fn(H:FnAt P ct f xs dv b.bA)(hd:∀G ρ,bI G ρ da dv)(b_:b.b_=true)(hl:dr.length+dv.length=xs.length)(h:b.run ⟨fill ct.aR (dr++da),mem⟩ (iE K)):pa P.up f dr mem K:=
 ⟨λ A G ρ s vs ht=>WC.fn0 H hd b_ hl h A G ρ s vs λ aa=>ht⟩
theorem pa.mono(h:pa P f dr mem K)(k:∀a m,K a m->K' a m):pa P f dr mem K':=
 ⟨λ A G ρ s vs t r p m v=>X.eh (h.run A G ρ s vs t r p m v) (n8 λ aa aa=>WQ.mono k)⟩
theorem pa.BS(h:pa P f dr mem K)(sel:ae Nat)(M:ae AO)(h0:sel[0]?=af 0)(vh:sel.Nodup)(len:sel.length=mem.length)
  (hm:∀(i:Nat) (j:Nat) (ao:AO),sel[i]?=af j->mem[i]?=af ao->M[j]?=af (la (eQ sel M.length) ao)):
  pa P f (ei (eQ sel M.length) dr) M (λ av M'=>∃pf mem',K pf mem'/\av=el (eQ sel M.length) pf/\M'=upd (eQ sel M.length) sel mem' M/\sel.length<=mem'.length):=
 ⟨λ A G ρ s vs t room i7 R hv=>yB (λ ρ=>ρ[0]?=af dL) (λ A G ρ s vs t room i7 R hv=>h.run A G ρ s vs t room i7 R hv) sel M vh len hm A G ρ s vs
  (((zy (ρ:=ρ) (sel:=sel) λ j hj=>(lS hj).elim λ i hi=>(oK (len▸jp hi)).elim λ aa e=>R.len▸jp (hm i j _ hi e)).2 0).trans ((ah (Option.bind · λ j=>ρ[j]?) h0).trans t)) room i7 R hv⟩
end
section
variable{P:cC}{ct:Ct}
theorem z4{M:ir}{a:au}(h:Heap)(X:∃o fd,h.get? a=af o/\o.data= .func fd):∃k,(k=AN\/k=xn\/k=s8)/\Looks M h (keeperOf (.ref a)) k:=by
 obtain⟨o,fd,ho,hd⟩:=X
 refine⟨.frame, .inl rfl,λ A Q E s k q=>?_⟩
 unfold keeperOf
 dsimp only
 refine aj (iQ (k _ _ ho) ?_)
 rw[hd]
 exact aw q
theorem G7.u{K:am->ar->Prop}{Q:iP->ar->Prop}{r:iP}{s:ar}(h:G7 K r s)(k:∀v,K v s->Q (.ok (.ret v)) s):Q r s:=by
 rcases r with _|(_|_|_|v)
 case ok.ret=>exact k v h
 all_goals exact h.elim
theorem WQ.pe{F:Fd}{G:BM}{ρ:ae au}{σ:St}{s s':ar}{v:am}{Kv:AV->St->Prop}(R:RF F ct.aR G ρ σ s)(z:WQ G ρ s (λ v m'=>Kv v ⟨σ.loc,m'⟩) v s'):PE F ct.aR G ρ Kv v s':=by
 rcases z with⟨G',ρ',av,mem',z,kp,nw,gf,gz⟩
 exact⟨G',ρ',av,⟨σ.loc,mem'⟩,z.1,z.2.1,R.Hs z.2.1 z.1 z.2.2.1 nw gf kp gz,z.2.2.2.1,z.2.2.2.2⟩
theorem WC.take{f:au}{dr:ae AV}{F:Fd}{G:BM}{ρ:ae au}{σ:St}{s:ar}{vs:ae am}{Kv:AV->St->Prop}(O:gH P ct F)(R:RF F ct.aR G ρ σ s)(va:bI G ρ dr vs)
  (h:WC P f dr σ.mem λ v m'=>Kv v ⟨σ.loc,m'⟩):WP P F.A (call (.ref f) vs []) (PE F ct.aR G ρ Kv) s:=
 X.calls (X.eh (h.run F.A G ρ s vs O.room (R.i7 O) R.rm va) λ r s' z=>z.u (Q:=λ r s'=>match r with | .ok (.ret v)=>PE F ct.aR G ρ Kv v s'|_=>False) λ v z=>z.pe R)
def Yp(a:AV)(K:au->Prop):Prop:=match a with
 | .fn g=>K g
 |_=>False
theorem Uy{a:AV}{K:au->Prop}(h:Yp a K):∃f,a= .fn f/\K f:=by
 rcases a with _|_|_|_|_|_|_|f|_|_|_|_|_|_|_|_|_|_
 case fn=>exact⟨f,rfl,h⟩
 all_goals exact h.elim
def sL{α:Type}(o:aq α)(K:α->Prop):Prop:=match o with
 |some x=>K x
 |none=>False
theorem sL.u{α:Type}{o:aq α}{K:α->Prop}{Q:Prop}(h:sL o K)(k:∀x,o=af x->K x->Q):Q:=by
 rcases o with _|x
 ·exact h.elim
 ·exact k x rfl h
theorem qy{α:Type}{o:aq α}{x:α}{K:α->Prop}(e:o=af x)(k:K x):sL o K:=e▸k
noncomputable def UC(s:AS)(outs:ae (TV×ae TO)):ae (TV×AS):=outs.map λ o=>(o.1,⟨s.loc,o.2⟩)
theorem cC.RH(P:cC):P.dn.Le P:=⟨rfl,rfl,Nat.sub_le _ _, .inr rfl,λ aa h=>h⟩
theorem DW.d2{g:au}{vs:ae AV}{s:AS}{σ:St}{outs:ae (TV×ae TO)}(h:DW P.dn g vs σ.mem outs)(gs:GS s σ):D2 (λ K=>WC P g vs σ.mem λ v m'=>K v ⟨σ.loc,m'⟩) GV (UC s outs):=
 h.imp λ v h=>h.elim λ m' h=>⟨⟨σ.loc,m'⟩,h.1.elim λ o q=>⟨_,dM.mpr ⟨o,q.1,rfl⟩,q.2.1,gs.loc,q.2.2⟩,λ K k=>(h.2.up P.RH).mono λ a m z=>z.1▸z.2▸k⟩
section
variable{F:Fd}{G:BM}{ρ:ae au}{σ:St}{s:ar}{Q:am->ar->Prop}
theorem GY(f:SE P ct)(as:SL P ct){cp:c7}(hf:∃x q,f.bA= .Name x q)(cf:f.b_=true)(ca:as.b_=true)(O:gH P ct F)(R:RF F ct.aR G ρ σ s){Kn:AV->St->Prop}(h:f.run σ Kn)
  (k:∀dU c6 a aI u s₁,dC G dU->Ext ρ c6->RF F ct.aR dU c6 aI s₁->VR dU c6 a u->Kn a aI->cK P.j (aE P.prog P.w) F.A (callWith cp u [] (backTo cp (fw as.bA F.env)) []) Q s₁):cK P.j (aE P.prog P.w) F.A (eval (.Call f.bA as.bA [] cp) F.env) Q s:=
 hf.elim λ x hf=>hf.elim λ q hf=>(ah (λ n=>cK P.j (aE P.prog P.w) F.A (eval (.Call n as.bA [] cp) F.env) Q s) hf).mpr (X.pT (X.mono (hf▸f.ok cf F G ρ σ s _ O R h) λ u s₁ z=>z.u λ dU c6 a aI fG fb dQ va bH=>k dU c6 a aI u s₁ fG fb dQ va bH))
theorem zD(f:SE P ct)(as:SL P ct){cp:c7}(hf:∃x q,f.bA= .Name x q)(cf:f.b_=true)(ca:as.b_=true)(O:gH P ct F)(R:RF F ct.aR G ρ σ s){Kc:au->ae AV->St->Prop}(h:f.run σ λ fv aI=>Yp fv λ g=>as.run aI λ vs aU=>Kc g vs aU)
  (k:∀g dr vs jn gZ aU bp,dC G jn->Ext ρ gZ->RF F ct.aR jn gZ aU bp->bI jn gZ dr vs->Kc g dr aU->cK P.j (aE P.prog P.w) F.A (call (.ref g) vs []) Q bp):cK P.j (aE P.prog P.w) F.A (eval (.Call f.bA as.bA [] cp) F.env) Q s:=
 GY f as hf cf ca O R h λ dU c6 a aI u s₁ fG fb dQ va bH=>by
  obtain⟨g,rfl,bH⟩:=Uy bH
  obtain⟨rfl,o,fd,ho,hd⟩:=va
  exact X.t_ (Pm:=λ h=>∃o fd,h.get? g=af o/\o.data= .func fd) (as.plain _ _) z4 (X.mono (as.ok ca F dU c6 aI s₁ _ _ O dQ bH) λ vs bp z=>z.u λ jn gZ dr aU jd jr gJ qW w=>⟨⟨o,fd,gJ.rm.kg _ _ (jd _ _ ho),hd⟩,k g dr vs jn gZ aU bp (fG.trans jd) (fb.trans jr) gJ qW w⟩)
end
def Dx(f:SE P ct)(as:SL P ct)(p:c7):SE P ct where
 bA:= .Call f.bA as.bA [] p
 run:=λ σ K=>f.run σ λ fv aI=>Yp fv λ g=>as.run aI λ vs aU=>WC P g vs aU.mem λ v m'=>K v ⟨aU.loc,m'⟩
 b_:=isNm f.bA&&(f.b_&&as.b_)
 star:=λ aa aa=>rfl
 ok:=λ c F G ρ σ s Kv O R h=>zD f as (wH (aG c).1) (aG (aG c).2).1 (aG (aG c).2).2 O R h λ g dr vs jn gZ aU bp le x gJ qW cU=>X.mono (WC.take O gJ qW cU) λ aa aa=>PE.up le x
 ab:=λ s=>bO (f.ab s) λ t s=>ob (tFn t) λ g=>bO (as.ab s) λ vs s=>ob (P.cB g.1 vs s.mem) λ outs=>af (UC s outs)
 cN:=λ fo s outs h σ gs=>(f.cN fo).bind h gs λ t s l h a σ ga gs=>ob.u h λ g aa h=>(ll ga g.2).symm▸(as.cN fo).bind h gs λ ts s l h vs σ TX gs=>ob.u h λ outs e h=>ak h▸(fo _ _ _ _ e _ _ TX gs.mem).d2 gs
theorem my.make{A:bn}{d:Nat}{C:au}{vs:ae am}(h:my A d)(hd:1<=d):my (A.under (.builtin "type.__call__" ⟨.ref C::vs,[]⟩)) (d - 1):=by
 rcases d with _|d
 ·exact bt hd (ja 0)
 ·exact⟨room_in (e:=1) h.1 (by decide),room_in (e:=1) h.2.1 (by decide),h.2.2⟩
noncomputable def F2:(outs:ae (TV×ae TO))->aq {u:e7 // ∀o∈outs,o.1= .ex .none}
 |[]=>af ⟨(),λ aa h=>nomatch h⟩
 |o::r=>ob (Ss o.1) λ e=>ob (F2 r) λ k=>af ⟨(),aJ.mpr ⟨e.2,k.2⟩⟩
theorem xJ.of{K:f_}{C fi:au}(h:xJ K C fi=true):makesIn K C=true/\findIn K (.ref C) "__init__"=af (af (.ref fi))/\typeIn K (.ref fi)=af (.type "function")/\keepIn K (.ref C)=true:=
 have a:=aG h
 have b:=aG a.1
 have c:=aG b.1
 ⟨c.1,be.mp c.2,be.mp b.2,a.2⟩
theorem J3{α:Type}{l:ae α}{x:α}{n:Nat}(e:l.length=n):(l++[x])[n]?=af x:=e▸xy
theorem RF.make{F:Fd}{aR:ae bM}{G:BM}{ρ:ae au}{σ:St}{s:ar}(R:RF F aR G ρ σ s)(C:au):∃ρ',Ext ρ ρ'/\VR G ρ' (.own (σ.mem.length+1)) (.ref (s.heap.objs.size+1))/\
  RF F aR G ρ' ⟨σ.loc,σ.mem++[.ns [] [], .inst C σ.mem.length]⟩ {s with heap:=(s.heap.push qG).push (ge C s.heap.objs.size)}:=
 have lu:=R.new (ao:= .ns [] []) (s':={s with heap:=s.heap.push qG}) R.K0 (aN _ rfl) ⟨[],_,[],rfl,⟨rfl,rfl⟩,bI.nil⟩ (λ b o e=>aA _ e) ⟨rfl,rfl,rfl⟩
 have e:ρ.length=σ.mem.length:=R.rm.len
 have pP:=lu.new (ao:= .inst C σ.mem.length) (s':={s with heap:=(s.heap.push qG).push (ge C s.heap.objs.size)}) lu.K0 (aN _ rfl) ⟨s.heap.objs.size,Ext.get (Ext.snoc _ _) (J3 e),rfl⟩ (λ b o e=>aA _ e) ⟨rfl,rfl,rfl⟩
 ⟨_,(Ext.snoc _ _).trans (Ext.snoc _ _),VR.IP ((J3 (bh.trans (ah (·+1) e))).trans (ah af (Heap.size_push _ _))),(gO σ.mem [.ns [] []] [.inst C σ.mem.length])▸pP⟩
def acU(C:au)(f:SE P ct)(as:SL P ct)(p:c7):SE P ct where
 bA:= .Call f.bA as.bA [] p
 run:=λ σ K=>f.run σ λ fv aI=>fv= .val (.ref C)/\as.run aI λ vs aU=>sL (P.init C) λ fi=>WC P.dn fi (.own (aU.mem.length+1)::vs) (aU.mem++[.ns [] [], .inst C aU.mem.length]) λ v m'=>v= .none/\K (.own (aU.mem.length+1)) ⟨aU.loc,m'⟩
 b_:=isNm f.bA&&(bB 1 P.d&&(f.b_&&as.b_))
 star:=λ aa aa=>rfl
 ok:=λ c F G ρ σ s Kv O R h=>have hf:=wH (aG c).1; have c:=(aG c).2; have ca:=aG (aG c).2
  GY f as hf ca.1 ca.2 O R h λ dU c6 a aI u s₁ fG fb dQ va bH=>by
   cases bH.1
   cases eD va
   refine X.t_ (Pm:=λ h=>xJ P.K C ((P.init C).getD 0)=true/\P.K.In h) (as.plain _ _) (λ h z=>keeps_K (xJ.of z.1).2.2.2 _ z.2) (X.mono (as.ok ca.2 F dU c6 aI s₁ _ _ O dQ bH.2) λ vs bp z=>z.u λ jn gZ dr aU jd jr gJ qW cU=>cU.u λ fi hfi cU=>?_)
   have mk:=P.EI C fi hfi
   have hK:=gJ.K O
   exact⟨⟨hfi.symm▸mk,hK⟩,X.calls (X.make (makes_of hK (xJ.of mk).1) (looks_findIn hK (xJ.of mk).2.1) (λ self=>bind_fn hK self (xJ.of mk).2.2.1) rfl ((gJ.make C).elim λ ρ' y=>
    X.eh (cU.run _ jn _ _ _ (O.room.make (aP (aG c).1)) (gJ.i7 (P:=P) O) y.2.2.rm (bI.cons y.2.1 (bI.up (dC.refl _) y.1 _ qW))) λ r s' z=>z.u (Q:=λ r s'=>match r with | .ok (.ret v)=>v= .none/\PE F ct.aR G ρ Kv (.ref (bp.heap.objs.size+1)) s'|_=>False) λ v z=>(z.pe (Kv:=λ v σ=>v= .none/\Kv (.own (aU.mem.length+1)) σ) y.2.2).u λ G' kZ av bZ g x R' vv q=>
     ⟨(q.1▸vv:VR G' kZ .none v).of_none,G',kZ,_,bZ,fG.trans (jd.trans g),fb.trans (jr.trans (y.1.trans x)),R',y.2.1.up g x,q.2⟩))⟩
 ab:=λ s=>bO (f.ab s) λ t s=>ob (acu t) λ c=>bE (a_ c.1 C) λ aa=>bO (as.ab s) λ vs s=>ob (P.init C) λ fi=>ob (P.cB fi (.ex (.own (s.mem.length+1))::vs) (s.mem++[.ns [] []]++[.inst C s.mem.length])) λ outs=>
  ob (F2 outs) λ aa=>af (outs.map λ o=>(.ex (.own (s.mem.length+1)),⟨s.loc,o.2⟩))
 cN:=λ fo s outs h σ gs=>(f.cN fo).bind h gs λ t s l h a σ ga gs=>ob.u h λ c aa h=>bE.u h λ hc h=>D2.eq ((as.cN fo).bind (C:=λ vs aU K=>sL (P.init C) λ fi=>WC P.dn fi (.own (aU.mem.length+1)::vs) (aU.mem++[.ns [] [], .inst C aU.mem.length]) λ v m'=>v= .none/\K (.own (aU.mem.length+1)) ⟨aU.loc,m'⟩)
   h gs λ ts s l h vs σ TX gs=>ob.u h λ fi e1 h=>ob.u h λ outs e h=>ob.u h λ an aa h=>ak h▸
   have hl:s.mem.length=σ.mem.length:=gs.mem.len
   have gm:=(gs.mem.app (o:= .ns [] []) (o':= .ns [] []) ⟨[],rfl,rfl⟩ rfl).app (o:= .inst C s.mem.length) (o':= .inst C σ.mem.length) (ah (AO.inst C) hl.symm) rfl
   have gw:AV.own (σ.mem.length+1)= .own (s.mem.length+1):=ah (λ n=>AV.own (n+1)) hl.symm
   (fo _ _ _ _ e (.own (σ.mem.length+1)::vs) _ (dD.cons gw TX) gm).elim λ v w=>w.elim λ m' w=>w.1.elim λ o q=>⟨.own (σ.mem.length+1),⟨σ.loc,m'⟩,⟨_,dM.mpr ⟨o,q.1,rfl⟩,gw,gs.loc,q.2.2⟩,
    λ K k=>qy e1 ((gO σ.mem [.ns [] []] [.inst C σ.mem.length]▸w.2).mono λ a m z=>⟨z.1.trans (an.2 o q.1▸q.2.1:GV (.ex .none) v),z.2▸k⟩)⟩) λ K k=>⟨(ll ga c.2).trans (ah (λ c=>AV.val (.ref c)) (aL hc)),k⟩
def IH(P:cC)(C:au)(ks:ae Nat)(x:Nat)(K:au->Prop):Prop:=sL (P.uR C x) λ g=>aY (ww ks x) False (K g)
def onM(P:cC)(a:AV)(x:Nat)(mem:ae AO)(K:au->Prop):Prop:=match a with
 | .own p=>CV mem p λ C aa ks aa=>IH P C ks x K
 | .inst C ks _=>IH P C ks x K
 |_=>False
theorem IH.u{C:au}{ks:ae Nat}{x:Nat}{K:au->Prop}{Q:Prop}(h:IH P C ks x K)(k:∀g,nz P.K C (nm x) g=true->x < NM->ww ks x=false->K g->Q):Q:=sL.u h λ g e h=>by
 have m:=P.EX _ _ _ e
 cases q:ww ks x with
 |true=>rw[q] at h; exact h.elim
 |false=>rw[q] at h; exact k g m.2 m.1 q h
theorem Aj{C:au}{ks:ae Nat}{x:Nat}{K:au->Prop}{g:au}(e:P.uR C x=af g)(hk:(!ww ks x)=true)(k:K g):IH P C ks x K:=qy e ((ah (aY · False (K g)) (nb hk)).mpr k)
theorem tE{x:Nat}(hx:x < NM):∀{ks:ae Nat} {es:ae bi} {us:ae am},ww ks x=false->t6 ks es us->getL (nm x) es=af none
 |[],es,us=>λ aa h=>h.u0 (Q:=λ es aa=>getL (nm x) es=af none) rfl
 |k::ks,es,us=>λ h hk=>hk.uc (Q:=λ es aa=>getL (nm x) es=af none) λ hh t u es us kn hk=>by
  have q:k≠x:=λ e=>ay ((ah (aY · true (ww ks x)) (e▸uD k:a_ k x=true)).symm.trans h)
  exact(yI ((E2 kn hx).trans (d9.mpr q))).trans (tE hx ((ah (aY · true (ww ks x)) (S0 q)).symm.trans h) hk)
theorem nz.of{K:f_}{C g:au}{x:bM}(h:nz K C x g=true):plainGet K C x=true/\findIn K (.ref C) x=af (af (.ref g))/\typeIn K (.ref g)=af (.type "function")/\fnIn K g=true:=
 have a:=aG h
 have b:=aG a.1
 have c:=aG b.1
 ⟨c.1,be.mp c.2,be.mp b.2,a.2⟩
theorem wF{A:bn}{s:ar}{K:f_}{C x d g:au}{prog:aK}{w:bw}{es:ae bi}{n:Nat}{name:bM}{pl:ie aC}{Q:am×ae am->ar->Prop}(X:K.In s.heap)(ok:nz K C name g=true)
  (hx:s.heap.get? x=af (ge C d)) (hd:s.heap.get? d=af (nh es n)) (hl:getL name es=af none) (h:Q (.ref g,[.ref x]) s):aH (aE prog w) A (fD (.ref x) name pl) Q dq s:=
 have m:=nz.of ok
 method_fn X (⟨hx,rfl,rfl,hd⟩:InstAt s.heap x (ge C d) C (af (nh es n))) (plainGet_of m.1).1 (plainGet_of m.1).2 m.2.1 m.2.2.1 (ah (e6 λ v:aq am=>v.isSome) ((lookIn_dict ..).trans hl)) h
theorem VR.Xz{G:BM}{ρ:ae au}{C:au}{ks:ae Nat}{vs:ae AV}{v:am}{Q:am->Prop}(h:VR G ρ (.inst C ks vs) v)(k:∀a d es n us,G a=af (ge C d)->G d=af (nh es n)->t6 ks es us->bI G ρ vs us->Q (.ref a)):Q v:=
 aD h λ a h=>h.elim λ d h=>h.elim λ es h=>h.elim λ n h=>h.elim λ us h=>h.1▸k a d es n us h.2.1 h.2.2.1 h.2.2.2.1 h.2.2.2.2
theorem IG{F:Fd}{G:BM}{ρ:ae au}{σ:St}{s:ar}{a:AV}{u:am}{x:Nat}{K:au->Prop}{pl:ie aC}{Q:am×ae am->ar->Prop}(O:gH P ct F)(R:RF F ct.aR G ρ σ s)(va:VR G ρ a u)(h:onM P a x σ.mem K)
  (hq:∀g,fnIn P.K g=true->K g->Q (.ref g,[u]) s):aH (aE P.prog P.w) F.A (fD u (nm x) pl) Q dq s:=by
 rcases a with _|_|_|_|_|p|_|_|_|_|_|_|_|⟨C,ks,vs⟩|_|_|_|_
 case own=>exact CV.u h λ C j ks vs e1 e2 h=>h.u λ g ok xl hk h=>R.T2 va e1 e2 (Q:=λ u=>(∀g,fnIn P.K g=true->K g->Q (.ref g,[u]) s)->aH (aE P.prog P.w) F.A (fD u (nm x) pl) Q dq s) (λ a d es n us h1 aa h3 h4 aa hq=>wF (R.K O) ok h1 h3 (tE xl hk h4) (hq g (nz.of ok).2.2.2 h)) hq
 case inst=>exact IH.u h λ g ok xl hk h=>va.Xz (Q:=λ u=>(∀g,fnIn P.K g=true->K g->Q (.ref g,[u]) s)->aH (aE P.prog P.w) F.A (fD u (nm x) pl) Q dq s) (λ a d es n us h1 h3 h4 aa hq=>wF (R.K O) ok (R.rm.kg _ _ h1) (R.rm.kg _ _ h3) (tE xl hk h4) (hq g (nz.of ok).2.2.2 h)) hq
 all_goals exact h.elim
noncomputable def tGr(t:TV):aq {R:ae (ae (ae (ae Int))) // t= .gr R}:=match t with
 | .gr R=>af ⟨R,rfl⟩
 |_=>none
def aM(P:cC)(t:TV)(x:Nat)(s:AS):aq {g:au // ∀a σ,GV t a->GS s σ->∀K:au->Prop,K g->onM P a x σ.mem K}:=
 oe (ob (nK t) λ p=>jK (gR s.mem p.1) λ o ho=>ob (G3 o) λ c=>jK (gR s.mem c.1.2) λ o2 h2=>ob (oKs o2) λ kv=>jK (P.uR c.1.1 x) λ g hg=>bE (!ww kv.1 x) λ hk=>af ⟨g,λ a σ ga gs K k=>
  (gs.at ho c.2).elim λ aa z=>(gs.mem.get _ _ h2).elim λ o' z2=>(kv.2 _ _ z2.2).elim λ us e=>(ll ga p.2).symm▸Ai (z.1.trans (ah af z.2)) (z2.1.trans (ah af e)) (Aj hg hk k)⟩)
 (oe (ob (tGr t) λ R=>jK (P.uR 812 x) λ g hg=>bE (!ww [28,29] x) λ hk=>af ⟨g,λ a σ ga gs K k=>aD (R.2▸ga:GV (.gr R.1) a) λ ps e=>e.1.symm▸Aj hg hk k⟩)
 (ob (Sq t) λ c=>jK (P.uR c.1.1 x) λ g hg=>bE (!ww c.1.2.1 x) λ hk=>af ⟨g,λ a σ ga gs K k=>(ll ga c.2).symm▸Aj hg hk k⟩))
theorem fnOf{x:aq Obj}(h:(match x with|some ⟨_,_, .func _,_⟩=>true|_=>false)=true):∃o fd,x=af o/\o.data= .func fd:=by
 rcases x with _|⟨c,d,dt,sl⟩
 ·exact ay h
 ·cases dt
  case func fd=>exact⟨_,fd,rfl,rfl⟩
  all_goals exact ay h
theorem O5{K:f_}{g:au}(h:fnIn K g=true):∃o fd,K.lookup g=af o/\o.data= .func fd:=fnOf h
def Dy(o:SE P ct)(x:Nat)(ap:c7)(as:SL P ct)(p:c7):SE P ct where
 bA:= .Call (.Attribute o.bA (nm x) ap) as.bA [] p
 run:=λ σ K=>o.run σ λ a aI=>onM P a x aI.mem λ g=>as.run aI λ vs aU=>WC P g (a::vs) aU.mem λ v m'=>K v ⟨aU.loc,m'⟩
 b_:=mtB o.bA as.bA ap p&&(o.b_&&as.b_)
 star:=λ aa aa=>rfl
 ok:=λ c F G ρ σ s Kv O R h=>have d:=(aG c).1; have c:=(aG c).2; (GW d (nm x) F.env (as.plain _ _)).elim λ pl he=>X.BI he (X.mono (o.ok (aG c).1 F G ρ σ s _ O R h) λ u s₁ z=>z.u λ dU c6 a aI fG fb dQ va bH=>X.any (IG O dQ va bH λ g hg cU=>
  X.t_ (Pm:=λ h=>∃o fd,h.get? g=af o/\o.data= .func fd) (as.plain _ _) z4 (X.mono (as.ok (aG c).2 F dU c6 aI s₁ _ _ O dQ cU) λ vs bp z=>z.u λ jn gZ dr aU jd jr gJ qW fE=>⟨(O5 hg).imp λ aa=> .imp λ aa=> .imp_left ((gJ.K O) _ _),X.mono (WC.take O gJ (bI.cons (va.up jd jr) qW) fE) λ aa aa=>PE.up (fG.trans jd) (fb.trans jr)⟩)))
 ab:=λ s=>bO (o.ab s) λ t s=>ob (aM P t x s) λ g=>bO (as.ab s) λ vs s=>ob (P.cB g.1 (t::vs) s.mem) λ outs=>af (UC s outs)
 cN:=λ fo s outs h σ gs=>(o.cN fo).bind h gs λ t s l h a σ ga gs=>ob.u h λ g aa h=>D2.eq ((as.cN fo).bind (C:=λ vs aU K=>WC P g.1 (a::vs) aU.mem λ v m'=>K v ⟨aU.loc,m'⟩) h gs λ ts s l h vs σ TX gs=>ob.u h λ outs e h=>ak h▸(fo _ _ _ _ e _ _ (dD.cons ga TX) gs.mem).d2 gs) λ K k=>g.2 a σ ga gs _ k
end
section
variable{P:cC}{ct:Ct}
theorem RF.side{F:Fd}{aR:ae bM}{G:BM}{ρ:ae au}{σ:St}{s s':ar}{I:au}(R:RF F aR G ρ σ s)(k:∀a o,a≠I->s.heap.get? a=af o->s'.heap.get? a=af o)
  (n1:I∉ρ) (n2:G I=none) (n3:F.h₀.get? I=none) (n4:I≠F.env.locals) (n5:∀x,F.env.cells.lookup x≠af I) (z:s'.gens=s.gens/\s'.gens=s.gens/\s'.os=s.os):RF F aR G ρ σ s':=by
 obtain⟨mL,oL,esL,epL,Jy,rL⟩:=R.ns
 have kL:∀o,s.heap.get? F.env.locals=af o->s'.heap.get? F.env.locals=af o:=λ o e=>k _ o (Ne.symm n4) e
 have kc:∀y c o,F.env.cells.lookup y=af c->s.heap.get? c=af o->s'.heap.get? c=af o:=λ y c o e q=>k c o (λ h=>n5 y (h▸e)) q
 refine⟨R.rm.Ht λ a o q e=>k a o (λ h=>?_) e,⟨mL,oL,esL,epL,kL _ Jy,rL⟩,λ i x' v e e' n=>?_,R.lG,R.A3,λ x' c e=>?_,R.pY,λ a o n f e=>k a o (λ h=>?_) (R.keep a o n f e),λ a o e=>?_,R.ext,R.nw,R.B9,R.A2,R.gz.trans (GZ.of z)⟩
 ·subst h
  rcases q with q|q
  ·exact n1 q
  ·rw[n2] at q; cases q
 ·obtain⟨u,q,a⟩:=R.loc i x' v e e' n
  exact⟨u,q,a.keeps kL kc⟩
 ·obtain⟨a,b,⟨v,o,ho,hd⟩,f⟩:=R.cell x' c e
  exact⟨a,b,⟨v,o,kc x' c o e ho,hd⟩,f⟩
 ·subst h; rw[n3] at e; cases e
 ·obtain⟨o',e'⟩:=R.live a o e
  by_cases h:a=I
  ·subst h; rw[n3] at e; cases e
  ·exact⟨o',k a o' h e'⟩
structure Loose(F:Fd)(G:BM)(ρ:ae au)(s:ar)(I:au):Prop where
 ρ:I∉ρ
 G:G I=none
 h:F.h₀.get? I=none
 L:I≠F.env.locals
 c:∀x,F.env.cells.lookup x≠af I
 al:∃o,s.heap.get? I=af o
theorem RF.MZ{F:Fd}{aR:ae bM}{G:BM}{ρ:ae au}{σ:St}{s s':ar}{I:au}(R:RF F aR G ρ σ s)(Lo:Loose F G ρ s I)(k:∀a o,a≠I->s.heap.get? a=af o->s'.heap.get? a=af o)(al:∃o,s'.heap.get? I=af o)
  (z:s'.gens=s.gens/\s'.gens=s.gens/\s'.os=s.os):RF F aR G ρ σ s'/\Loose F G ρ s' I:=
 ⟨R.side k Lo.ρ Lo.G Lo.h Lo.L Lo.c z,Lo.ρ,Lo.G,Lo.h,Lo.L,Lo.c,al⟩
theorem RF.WS{F:Fd}{aR:ae bM}{G:BM}{ρ:ae au}{σ:St}{s:ar}(R:RF F aR G ρ σ s){a:au}(q:s.heap.get? a=none):F.h₀.get? a=none:=by
 cases e:F.h₀.get? a with
 |none=>rfl
 |some o=>obtain⟨o',e'⟩:=R.live a o e; rw[q] at e'; cases e'
theorem RF.loose{F:Fd}{aR:ae bM}{G:BM}{ρ:ae au}{σ:St}{s s':ar}{I:au}(R:RF F aR G ρ σ s)(hI:s.heap.get? I=none)(al:∃o,s'.heap.get? I=af o):Loose F G ρ s' I:=by
 refine⟨λ hm=>?_,?_,R.WS hI,λ h=>?_,λ x h=>?_,al⟩
 ·obtain⟨o,ho⟩:=R.rm.some_of hm; rw[hI] at ho; cases ho
 ·cases e:G I with
  |none=>rfl
  |some o=>have:=R.rm.kg I o e; rw[hI] at this; cases this
 ·obtain⟨m,o,es,ep,ho,_⟩:=R.ns; subst h; rw[hI] at ho; cases ho
 ·obtain⟨_,_,⟨v,o,ho,_⟩,_⟩:=R.cell x I h; rw[hI] at ho; cases ho
theorem RF.over{F:Fd}{G G':BM}{ρ ρ':ae au}{σ bZ:St}{s s':ar}{I:au}(R:RF F ct.aR G ρ σ s)(Lo:Loose F G ρ s I)(R':RF (F.now G ρ s) ct.aR G' ρ' bZ s'):
  RF F ct.aR G' ρ' bZ s'/\Loose F G' ρ' s' I/\∀o,s.heap.get? I=af o->s'.heap.get? I=af o:=by
 obtain⟨o,ho⟩:=Lo.al
 have kp:∀o,s.heap.get? I=af o->s'.heap.get? I=af o:=λ o e=>R'.keep I o Lo.ρ ⟨Lo.L,λ aa x aa=>Lo.c x⟩ e
 refine⟨R.then R',⟨λ hm=>?_,?_,Lo.h,Lo.L,Lo.c,_,kp o ho⟩,kp⟩
 ·rcases R'.nw I hm with q|q
  ·exact Lo.ρ q
  ·rw[show(F.now G ρ s).h₀=s.heap from rfl,ho] at q; cases q
 ·cases e:G' I with
  |none=>rfl
  |some o'=>
   rcases R'.A2 I o' e with q|q
   ·have:G I=af o':=q; rw[Lo.G] at this; cases this
   ·rw[show(F.now G ρ s).h₀=s.heap from rfl,ho] at q; cases q
abbrev yf(set:AV->St->(St->Prop)->Prop)(t:TV)(s s':AS):Prop:=∀v σ,GV t v->GS s σ->∃bZ,GS s' bZ/\∀K:St->Prop,K bZ->set v σ K
structure TG(P:cC)(ct:Ct) where
 bA:aB
 set:AV->St->(St->Prop)->Prop
 b_:aC
 ok:b_=true->∀F G ρ σ s v u K,gH P ct F->RF F ct.aR G ρ σ s->VR G ρ v u->set v σ K->aH (aE P.prog P.w) F.A (assign bA F.env u) (λ aa s'=>∃bZ,RF F ct.aR G ρ bZ s'/\K bZ) dq s
 lp:aC
 go:∀(A:bn) (s:ar) (I:au) (u:am) (Q:e7->ar->Prop),(lp=true\/∃l k,s.heap.IsListIter I l k)->Q () s->aH (aE P.prog P.w) A (du bA (.ref I) u) Q dq s
 st:(t:TV)->(s:AS)->aq {s':AS // yf set t s s'}:=λ aa aa=>none
theorem qE{F:Fd}{G:BM}{ρ:ae au}{σ:St}{s:ar}{i:Nat}{x:bM}{av:AV}{u:am}{Q:e7->ar->Prop}(O:gH P ct F)(R:RF F ct.aR G ρ σ s)(c:oZ ct i x=true)(va:VR G ρ av u)
  (h:∀s',RF F ct.aR G ρ ⟨setAt σ.loc i av,σ.mem⟩ s'->Q () s'):aH (aE P.prog P.w) F.A (t3 F.env x u) Q dq s:=
 X.back (tR (P:={P with j:=false}) ⟨O.kind,O.names,O.glob,O.blt,O.room,O.i7,O.vh,O.ro,O.cells,O.tb,O.cq⟩ R c va h)
def xb(i:Nat)(p:c7):TG P ct where
 bA:= .Name (G0 ct i) p
 set:=λ v σ K=>K (σ.set i v)
 b_:=oZ ct i (G0 ct i)
 ok:=λ c F G ρ σ s v u K O R va h=>xD (qE O R c va λ s' R'=>⟨_,R',h⟩)
 lp:=true
 go:=λ aa aa aa aa aa aa q=>aw q
 st:=λ t s=>af ⟨s.set i t,λ v σ g gs=>⟨σ.set i v,⟨gs.loc.set i g,gs.mem⟩,λ K k=>k⟩⟩
noncomputable abbrev hH:=Nat×bM×c7
noncomputable def qd:ae hH->ae AV->St->(St->Prop)->Prop
 |[],[],σ,K=>K σ
 |n::r,v::vs,σ,K=>qd r vs (σ.set n.1 v) K
 |_,_,_,_=>False
noncomputable def bU:ae Int->ae AV
 |i::r=> .int i::bU r
 |[]=>[]
theorem oN{G:BM}{ρ:ae au}:∀{ns:ae Int} {vs:ae am},cw ns vs->bI G ρ (bU ns) vs
 |[],_=>id
 |i::r,_=>λ h=>h.uc (Q:=λ vs=>bI G ρ (bU (i::r)) vs) λ t vs h=> .cons VR.mA (oN h)
def Ao(ns:ae hH)(v:AV)(σ:St)(K:St->Prop):Prop:=match v with
 | .tup xs=>qd ns xs σ K
 | .ly xs=>qd ns (bU xs) σ K
 |_=>False
noncomputable def jA(ct:Ct):ae hH->aC
 |[]=>true
 |n::r=>oZ ct n.1 n.2.1&&jA ct r
theorem wY{K:St->Prop}:∀{ns:ae hH} {vs:ae AV} {σ:St},qd ns vs σ K->ns.length=vs.length
 |[],[],_,_=>rfl
 |[],_::_,_,h=>h.elim
 |_::_,[],_,h=>h.elim
 |n::r,v::vs,σ,h=>ah (·+1) (wY (ns:=r) h)
noncomputable def names3(ns:ae hH):ae aB:=ns.map λ n=> .Name n.2.1 n.2.2
theorem sn{F:Fd}{G:BM}{ρ:ae au}{K:St->Prop}(O:gH P ct F):∀(ns:ae hH) (dr:ae AV) (us:ae am) (σ:St) (s:ar),jA ct ns=true->RF F ct.aR G ρ σ s->bI G ρ dr us->qd ns dr σ K->
  aH (aE P.prog P.w) F.A (gj ((jE (names3 ns) F.env).map (·.2)) us) (λ aa s'=>∃bZ,RF F ct.aR G ρ bZ s'/\K bZ) dq s
 |[],[],us,σ,s,c,R,va,h=>va.u0 (Q:=λ us=>aH (aE P.prog P.w) F.A (gj [] us) (λ aa s'=>∃bZ,RF F ct.aR G ρ bZ s'/\K bZ) dq s) (aw ⟨σ,R,h⟩)
 |[],_::_,_,_,_,_,_,_,h=>h.elim
 |_::_,[],_,_,_,_,_,_,h=>h.elim
 |n::r,v::vs,us,σ,s,c,R,va,h=>va.uc (Q:=λ us=>aH (aE P.prog P.w) F.A (gj ((jE (names3 (n::r)) F.env).map (·.2)) us) (λ aa s'=>∃bZ,RF F ct.aR G ρ bZ s'/\K bZ) dq s) λ u ur vu vr=>
  aj (bS (xD (qE O R (aG c).1 vu λ s' R'=>sn O r vs ur _ s' (aG c).2 R' vr h)))
theorem p9(env:Env):∀ns:ae hH,(jE (names3 ns) env).length=ns.length/\(jE (names3 ns) env).findIdx? (·.1)=none
 |[]=>⟨rfl,rfl⟩
 |n::r=>have h:=p9 env r
  ⟨ah (·+1) h.1,(List.findIdx?_cons ..).trans (ah (e6 (·+1)) h.2)⟩
theorem zd{F:Fd}{G:BM}{ρ:ae au}{σ:St}{s:ar}{ns:ae hH}{K:St->Prop}(O:gH P ct F)(R:RF F ct.aR G ρ σ s)(c:jA ct ns=true){a:au}{o:Obj}{vs:bD am}{dr:ae AV}(g:G a=af o)(t:px o vs)(vr:bI G ρ dr vs.toList)(h:qd ns dr σ K):
  aH (aE P.prog P.w) F.A (unpack (.ref a) (jE (names3 ns) F.env)) (λ aa s'=>∃bZ,RF F ct.aR G ρ bZ s'/\K bZ) dq s:=by
 unfold unpack
 rw[(p9 F.env ns).1,(p9 F.env ns).2,(wY h).trans (vr.length.symm.trans bf)]
 exact aj (bS (unpackItems_tuple O.room.2.2 ⟨o,R.rm.kg _ _ g,t.1,t.2⟩ λ h' e=>sn O ns dr vs.toList σ _ c (R.grow (s':={s with heap:=h'}) (λ b o' q=>e b o' (dN (b8 q)) q) ⟨rfl,rfl,rfl⟩) vr h))
theorem Ao.u{ns:ae hH}{v:AV}{σ:St}{K:St->Prop}{Q:AV->Prop}(h:Ao ns v σ K)(k1:∀xs,qd ns xs σ K->Q (.tup xs))(k2:∀xs,qd ns (bU xs) σ K->Q (.ly xs)):Q v:=by
 rcases v with _|_|_|_|_|_|_|_|xs|_|xs|_|_|_|_|_|_|_
 case ly=>exact k2 xs h
 case tup=>exact k1 xs h
 all_goals exact h.elim
theorem s5{F:Fd}{G:BM}{ρ:ae au}{σ:St}{s:ar}{ns:ae hH}{v:AV}{u:am}{K:St->Prop}(O:gH P ct F)(R:RF F ct.aR G ρ σ s)(c:jA ct ns=true)(va:VR G ρ v u)(h:Ao ns v σ K):
  aH (aE P.prog P.w) F.A (unpack u (jE (names3 ns) F.env)) (λ aa s'=>∃bZ,RF F ct.aR G ρ bZ s'/\K bZ) dq s:=
 Ao.u (Q:=λ v=>VR G ρ v u->aH (aE P.prog P.w) F.A (unpack u (jE (names3 ns) F.env)) (λ aa s'=>∃bZ,RF F ct.aR G ρ bZ s'/\K bZ) dq s) h
  (λ xs h va=>va.I8 (Q:=λ u=>aH (aE P.prog P.w) F.A (unpack u (jE (names3 ns) F.env)) (λ aa s'=>∃bZ,RF F ct.aR G ρ bZ s'/\K bZ) dq s) λ a o vs g t r=>zd O R c g t r h)
  (λ xs h va=>aD va λ a z=>z.elim λ o z=>z.elim λ vs z=>z.1▸zd O R c z.2.1 z.2.2.1 (oN z.2.2.2) h) va
noncomputable def FZ:ae hH->ae TV->AS->aq AS
 |[],[],s=>af s
 |n::r,t::ts,s=>FZ r ts (s.set n.1 t)
 |_,_,_=>none
theorem vQ:∀{ns:ae hH} {ts:ae TV} {s s':AS} {vs:ae AV} {σ:St},FZ ns ts s=af s'->dD ts vs->GS s σ->∃bZ,GS s' bZ/\∀K:St->Prop,K bZ->qd ns vs σ K
 |[],[],s,s',vs,σ,h,g,gs=>g.u0 (Q:=λ vs=>∃bZ,GS s' bZ/\∀K:St->Prop,K bZ->qd [] vs σ K) ⟨σ,ak h▸gs,λ K k=>k⟩
 |[],_::_,_,_,_,_,h,_,_=>cu h
 |_::_,[],_,_,_,_,h,_,_=>cu h
 |n::r,t::ts,s,s',vs,σ,h,g,gs=>g.uc (Q:=λ vs=>∃bZ,GS s' bZ/\∀K:St->Prop,K bZ->qd (n::r) vs σ K) λ v vs g g2=>vQ (ns:=r) (ts:=ts) (s:=s.set n.1 t) (σ:=σ.set n.1 v) h g2 ⟨gs.loc.set n.1 g,gs.mem⟩
abbrev aar(ts:ae TV)(v:AV):Prop:=∃vs,dD ts vs/\∀ns σ K,qd ns vs σ K->Ao ns v σ K
def tUp(t:TV):aq {ts:ae TV // ∀v,GV t v->aar ts v}:=match t with
 | .tp a b=>af ⟨[a,b],λ v g=>aD g λ x g=>g.elim λ y g=>g.1▸⟨[x,y], .cons g.2.1 (.cons g.2.2 rfl),λ aa aa aa k=>k⟩⟩
 | .ex (.tup xs)=>af ⟨yD xs,λ v g=>(show v=_ from g)▸⟨xs,k8 xs,λ aa aa aa k=>k⟩⟩
 | .ex (.ly xs)=>af ⟨yD (bU xs),λ v g=>(show v=_ from g)▸⟨_,k8 _,λ aa aa aa k=>k⟩⟩
 |_=>none
def Ro(ns:ae hH)(t:TV)(s:AS):aq {s':AS // yf (Ao ns) t s s'}:=ob (tUp t) λ ts=>jK (FZ ns ts.1 s) λ s' h=>af ⟨s',λ v σ g gs=>
 (ts.2 v g).elim λ vs z=>(vQ h z.1 gs).imp λ bZ y=>⟨y.1,λ K w=>z.2 _ _ _ (y.2 K w)⟩⟩
theorem TU{prog:aK}{w:bw}{A:bn}{s:ar}{I:au}{u:am}{es:ae aB}{k:Nat}{p:c7}{Q:e7->ar->Prop}(hit:∃l k,s.heap.IsListIter I l k)(q:Q () s):aH (aE prog w) A (du (.Tuple es k p) (.ref I) u) Q dq s:=by
 obtain⟨l,k,hit⟩:=hit
 cases u with
 |ref T=>exact wpAny_letOwnedTupleGo_listiter hit q
 |_=>exact aw q
def Nb(ns:ae hH)(k:Nat)(p:c7):TG P ct where
 bA:= .Tuple (names3 ns) k p
 set:=Ao ns
 b_:=jA ct ns
 ok:=λ c F G ρ σ s v u K O R va h=>aj (hV (s5 O R c va h))
 lp:=false
 go:=λ A s I u Q hit q=>TU (hit.resolve_left aV) q
 st:=Ro ns
theorem Vc{ns vs:ae aB}{tp vp:c7}{k kv:Nat}{env:Env}(hf:vs.all (mP 8)=true):i6 [.Tuple ns k tp] (.Tuple vs kv vp) env=pure none:=by
 unfold i6
 dsimp only
 split
 ·rfl
 ·split
  ·rfl
  ·split
   ·rfl
   ·rfl
noncomputable def XD(e:aB):aC:=match e with
 | .Attribute .. =>true
 | .Call .. =>true
 | .Subscript .. =>true
 | .Name .. =>true
 | .Tuple vs _ _=>vs.all (mP 8)
 |_=>false
theorem Zf{e:aB}(h:XD e=true):vg 2 e=true/\∀ns k tp env,i6 [.Tuple ns k tp] e env=pure none:=by
 cases e
 case Attribute=>exact⟨rfl,λ aa aa aa aa=>rfl⟩
 case Call=>exact⟨rfl,λ aa aa aa aa=>rfl⟩
 case Subscript=>exact⟨rfl,λ aa aa aa aa=>rfl⟩
 case Name=>exact⟨rfl,λ aa aa aa aa=>rfl⟩
 case Tuple=>exact⟨rfl,λ aa aa aa aa=>Vc h⟩
 all_goals exact ay h
def acl(ns:ae hH)(k:Nat)(tp:c7)(e:SE P ct)(p:c7):SX P ct where
 bA:= .Assign [.Tuple (names3 ns) k tp] e.bA p
 run:=λ σ K=>e.run σ λ v aI=>Ao ns v aI λ aU=>K .d7 aU
 b_:=XD e.bA&&(jA ct ns&&e.b_)
 ok:=λ c F G ρ σ s Kv O R h=>have d:=Zf (aG c).1; have c:=(aG c).2; X.xG (by unfold HU; exact Hv d.1) (d.2 _ _ _ _) (X.mono (e.ok (aG c).2 F G ρ σ s _ O R h) λ v s₁ z=>z.u λ G' ρ' a bZ g x R' va kk=>X.any (show aH _ _ (do di tp; unpack v (jE (names3 ns) F.env)) _ _ _ from
  aj (hV (cZ (s5 O R' (aG c).1 va kk) (λ aa s' y=>y.elim λ I_ y=>PF.d7 g x y.1 y.2) λ aa aa z=>z))))
 ab:=JZ e.ab λ t s=>ob (Ro ns t s) λ s'=>af [(.d7,s'.1)]
 cN:=λ fo=>nA fo λ t s outs a σ h ga gs=>ob.u h λ s' aa h=>(s'.2 a σ ga gs).elim λ bZ z=>D2.one h rfl z.1 λ K w=>z.2 _ w
end
section
variable{prog:aK}{w:bw}{A:bn}{s:ar}{d it:au}{o:Obj}{es:bD bi}{ep i:Nat}
theorem Ew(h:s.heap.get? d=af o)(c:o.ExactDict):s.TypeIs (.ref d) "dict":=⟨o,h,c.1⟩
theorem Ls{Q:am->ar->Prop}(ne:d≠df)(h:s.heap.get? d=af o)(c:o.ExactDict)(hd:o.data= .dict es ep)
  (q:Q (.ref s.heap.objs.size) {s with heap:=s.heap.push {cls:= .type "dict_keyiterator",data:= .fields #[.ref d, .int 0 0, .int es.size 0, .int ep 0]}}):aH (aE prog w) A (iz (.ref d)) Q dq s:=by
 have hT:=Ew h c
 refine xF hT F.slot_dict_iter (cA F.slot_dict_iter hT F.entry_dict_iter ?_ (F.args_dict_iter_1 _))
 unfold b7.«dict.__iter__» Builtin.Dict.dictSlotNone
 refine aj (aj (mf hT ?_))
 show aH _ _ (pure (dp d)) _ _ s
 refine aw ?_
 show aH _ _ (Builtin.Dict.showsAll d>>=_) _ _ s
 unfold Builtin.Dict.showsAll
 rw[bC (by simpa using ne)]
 refine aj (aw (aj (ed h hd (aj (nt h hd ?_)))))
 exact aj (cO (aw ⟨_,rfl,"dict_keyiterator",_,⟨_,aN _ rfl,rfl⟩,F.slot_dict_keyiterator_next.lookup,q⟩))
theorem CN{Q:aq am->ar->Prop}(hh:A.handled=none)(h:s.heap.get? d=af o)(c:o.ExactDict)(hd:o.data= .dict es ep)(hit:s.heap.IsKeyIter it d i es.size ep)
  (q1:es[i]?=none->∀h',vD it s.heap h'->Q none {s with heap:=h'})
  (q2:∀e,es[i]?=af e->∀h',h'.IsKeyIter it d (i+1) es.size ep->kS it s.heap h'->Q (af e.key) {s with heap:=h'}):aH (aE prog w) A (gG (.ref it)) Q dq s:=by
 obtain⟨oi,Z0,hci,Xn⟩:=id hit
 have hT:=hit.typeIs
 have name:∀{α:Type} {A:bn} {k:cR->ie α} {Q:α->ar->Prop} {E:am->ar->Prop},aH (aE prog w) A (k "dict_keyiterator") Q E s->aH (aE prog w) A (typeNameOfWhole (.ref it)>>=k) Q E s:=
  λ h=>aj (iO hT h)
 unfold gG
 refine aj (kP (c_ (name:=bR "__next__") hT F.slot_dict_keyiterator_next
  (cA F.slot_dict_keyiterator_next hT F.entry_dict_keyiterator_next ?_ (F.args_dict_keyiterator_next_1 _))))
 refine aj (aw (aj (aj ?_)))
 first|refine aj (iO hT (aw ?_))|refine aj (pL hT (aw ?_))
 refine aj (DV Z0 Xn ?_)
 rw[show Builtin.Dict_items.ownsTuple "dict_keyiterator"=false from by decide,bC aV]
 show aH _ _ (if (dp d==c8)=true then _ else _) _ _ s
 rw[bC (show ¬((dp d==c8)=true) from aV)]
 refine aj (aw (aj (ed h hd ?_)))
 rw[bC (by simp)]
 refine aj (aw (aj (nt h hd ?_)))
 rw[bC (by simp)]
 refine aw ?_
 dsimp only
 rw[show(if (i:Int) < 0 then none else es[(i:Int).toNat]?)=es[i]? from bC (gV.mpr (j9 i))]
 cases hx:es[i]? with
 |none=>
  dsimp only
  refine aj ?_
  first|refine aj (iO hT (aw ?_))|refine aj (pL hT (aw ?_))
  show aH _ _ (setField (.ref it) 0 .none>>=_) _ _ s
  refine aj (oB Z0 Xn (by simp) ?_)
  show aH _ _ (DT (.type "StopIteration") []>>=_) _ _ _
  refine aj ?_
  unfold DT newTuple
  refine aj (cO ?_ (by size_fits))
  refine aj (m:=jF _ _) (bu (a:=c8) (by first|rfl|(simp only[jF]; rfl)) ?_)
  refine cO ?_ (by size_fits)
  unfold raiseNew
  refine aj (wpAny_handled ?_)
  rw[show A.in1.handled=none from hh]
  refine aj (aw (wpAny_throw ?_))
  refine aj (eK (T:="StopIteration") (b:=true) ⟨_,aN _ rfl,rfl⟩ DS ?_)
  exact aw (q1 hx _ (((dB ..).extBut.push _).push _))
 |some e=>
  dsimp only
  refine aj ?_
  first|refine aj (iO hT (aw ?_))|refine aj (pL hT (aw ?_))
  refine aj (wpAny_isOneOf_keyiter hT ?_)
  show aH _ _ (setField (.ref it) 1 (np ((i:Int)+1))>>=_) _ _ s
  refine aj (oB Z0 Xn (by simp) ?_)
  have Xq:(s.heap.update it (Obj.mapFields (·.setIfInBounds 1 (np ((i:Int)+1))))).IsKeyIter it d (i+1) es.size ep:=
   ⟨_,dI _ Z0 (Obj.isFreed_of_fields (Obj.data_mapFields Xn _)),(Obj.cls_mapFields ..).trans hci,by rw[Obj.data_mapFields Xn]; simp [np]⟩
  refine aj (bS ?_)
  refine aj (wpAny_isOneOf_keyiter (s:={s with heap:=s.heap.update it (Obj.mapFields (·.setIfInBounds 1 (np ((i:Int)+1))))}) Xq.typeIs ?_)
  show aH _ _ (pure e.key) _ _ _
  exact aw (aw ⟨_,rfl,aw (q2 e hx _ Xq (dB ..))⟩)
end
noncomputable def nJ:ae AV->Nat->aq AV
 |v::_,0=>af v
 |_::r,i+1=>nJ r i
 |[],_=>none
theorem qx:∀(l:ae AV) (i:Nat),nJ l i=l[i]?
 |[],_=>rfl
 |_::_,0=>rfl
 |_::r,i+1=>qx r i
inductive IK where
 |fz (k:Nat) (rest:ae AV)|own (p k:Nat)|j6 (n:Nat) (i c:Int)|keys (k:Nat) (rest:ae (ae Int))
inductive ZF(G:BM)(ρ:ae au)(h:Heap)(I:au)(k:Nat)(rest:ae AV):Prop
 |mk (l:au) (o:Obj) (vs:bD am) (xs:ae AV) (i:h.IsListIter I l k) (g:G l=af o) (lo:iX o vs) (v:bI G ρ xs vs.toList) (e:rest=xs.drop k)
inductive ZE(G:BM)(h:Heap)(I:au)(k:Nat)(rest:ae (ae Int)):Prop
 |mk (d:au) (o:Obj) (es:bD bi) (ep:Nat) (us:ae am) (ks:ae (ae Int)) (g:G d=af o) (x:o.ExactDict) (hd:o.data= .dict es ep) (r:pw G ks es.toList us) (i:h.IsKeyIter I d k es.size ep) (e:rest=ks.drop k)
def HW(G:BM)(ρ:ae au)(h:Heap)(I:au):IK->Prop
 | .fz k rest=>ZF G ρ h I k rest
 | .own p k=>∃l,ρ[p]?=af l/\h.IsListIter I l k
 | .j6 n i c=>AM h I i n c
 | .keys k rest=>ZE G h I k rest
theorem HW.up{G G':BM}{ρ ρ':ae au}{h h':Heap}{I:au}(g:dC G G')(x:Ext ρ ρ')(k:∀o,h.get? I=af o->h'.get? I=af o){ik:IK}(q:HW G ρ h I ik):HW G' ρ' h' I ik:=by
 cases ik with
 |fz n rest=>exact ZF.casesOn (motive:=λ aa=>ZF G' ρ' h' I n rest) q λ l o vs xs i hg lo v e=>⟨l,o,vs,xs,i.imp λ aa=> .imp_left (k _),g _ _ hg,lo,v.up g x,e⟩
 |own p n=>exact cP (λ l=> .imp x.get (.imp λ aa=> .imp_left (k _))) q
 |j6 n i c=>exact k _ q
 |keys n rest=>exact ZE.casesOn (motive:=λ aa=>ZE G' h' I n rest) q λ d o es ep us ks hg c e r i q=>⟨d,o,es,ep,us,ks,g _ _ hg,c,e,r.up g,i.imp λ aa=> .imp_left (k _),q⟩
def Uv(o:aq AV)(p k:Nat)(K:aq (AV×IK)->Prop):Prop:=match o with
 |some v=>K (af (v, .own p (k+1)))
 |none=>K none
def Ae(ik:IK)(mem:ae AO)(K:aq (AV×IK)->Prop):Prop:=match ik with
 | .fz k rest=>(match rest with
  |[]=>K none
  |v::r=>K (af (v, .fz (k+1) r)))
 | .own p k=>pB mem p λ o=>match o with
  | .lst xs=>Uv (nJ xs k) p k K
  | .il ns=>Uv (nJ (bU ns) k) p k K
  |_=>False
 | .j6 n i c=>(match n with
  |0=>K none
  |n+1=>K (af (.int i, .j6 n (i+c) c)))
 | .keys k rest=>(match rest with
  |[]=>K none
  |v::r=>K (af (.tup (bU v), .keys (k+1) r)))
noncomputable def ph:IK->aC
 | .fz _ _=>true
 | .own _ _=>true
 |_=>false
theorem pw.len{G:BM}:∀{ks:ae (ae Int)} {es:ae bi} {us:ae am},pw G ks es us->es.length=ks.length
 |[],_,_=>λ h=>h.u0 (Q:=λ es aa=>es.length=0) rfl
 |k::ks,_,_=>λ h=>h.uc (Q:=λ es aa=>es.length=ks.length+1) λ aa aa aa aa aa h=>ah (·+1) (pw.len h)
theorem pw.at{G:BM}{ρ:ae au}:∀{ks:ae (ae Int)} {es:ae bi} {us:ae am},pw G ks es us->∀{i:Nat} {k:ae Int},ks[i]?=af k->∃e,es[i]?=af e/\VR G ρ (.tup (bU k)) e.key
 |[],_,_,_,i,_,e=>cu e
 |k::ks,_,_,h,0,k',e=>h.uc (Q:=λ es aa=>∃e,es[0]?=af e/\VR G ρ (.tup (bU k')) e.key) λ a u es us t aa=>⟨_,rfl,ak e▸aD t λ o t=>t.elim λ vs t=>VR.Zg t.1 t.2.1 (oN t.2.2)⟩
 |k::ks,_,_,h,j+1,k',e=>h.uc (Q:=λ es aa=>∃e,es[j+1]?=af e/\VR G ρ (.tup (bU k')) e.key) λ a u es us aa h=>pw.at (i:=j) h e
theorem RF.own{F:Fd}{G:BM}{ρ:ae au}{σ:St}{s:ar}{v:am}{aR:ae bM}{p:Nat}{o:AO}(R:RF F aR G ρ σ s)(va:VR G ρ (.own p) v)(e:bK σ.mem p=af o){Q:am->Prop}(k:∀adr ob,ρ[p]?=af adr->s.heap.get? adr=af ob->OR G ρ o ob->Q (.ref adr)):Q v:=
 va.P8 λ adr jI=>(R.rm.obj p adr o jI ((eI ..).symm.trans e)).elim λ ob q=>k adr ob jI q.1 q.2
section
variable{P:cC}{ct:Ct}{F:Fd}{G:BM}{ρ:ae au}{σ:St}{s:ar}{I:au}{ik:IK}
structure Nx1(F:Fd)(aR:ae bM)(G:BM)(ρ:ae au)(σ:St)(I:au)(ik:IK)(K:aq (AV×IK)->Prop)(v:AV)(EG:IK)(u:am)(s:ar):Prop where
 R:RF F aR G ρ σ s
 L:Loose F G ρ s I
 vr:VR G ρ v u
 i:HW G ρ s.heap I EG
 l:ph ik=false\/∃l k,s.heap.IsListIter I l k
 e:ph EG=ph ik
 k:K (af (v,EG))
def NxR(F:Fd)(aR:ae bM)(G:BM)(ρ:ae au)(σ:St)(I:au)(ik:IK)(K:aq (AV×IK)->Prop)(r:aq am)(s:ar):Prop:=match r with
 |none=>RF F aR G ρ σ s/\K none
 |some u=>∃v EG,Nx1 F aR G ρ σ I ik K v EG u s
variable{K:aq (AV×IK)->Prop}
abbrev NW(P:cC)(ct:Ct)(F:Fd)(G:BM)(ρ:ae au)(σ:St)(I:au)(ik:IK)(K:aq (AV×IK)->Prop)(s:ar):Prop:=aH (aE P.prog P.w) F.A (gG (.ref I)) (NxR F ct.aR G ρ σ I ik K) dq s
theorem next_end(R:RF F ct.aR G ρ σ s)(Lo:Loose F G ρ s I)(k:K none)(h':Heap)(e:vD I s.heap h'):NxR F ct.aR G ρ σ I ik K none {s with heap:=h'}:=
 ⟨R.side (s':={s with heap:=h'}) (λ a o ne q=>e a o ne q) Lo.ρ Lo.G Lo.h Lo.L Lo.c ⟨rfl,rfl,rfl⟩,k⟩
theorem CJ(O:gH P ct F)(R:RF F ct.aR G ρ σ s)(Lo:Loose F G ρ s I){l:au}{k:Nat}{o:Obj}{vs:bD am}{xs:ae AV}(hi:s.heap.IsListIter I l k)(ho:s.heap.get? l=af o)(hl:iX o vs)(hv:bI G ρ xs vs.toList)
  (k0:xs[k]?=none->K none) (k1:∀v,xs[k]?=af v->∃EG,ph EG=ph ik/\(∀h':Heap,h'.IsListIter I l (k+1)->HW G ρ h' I EG)/\K (af (v,EG))):NW P ct F G ρ σ I ik K s:=
 have L:s.heap.IsList l vs:=⟨o,ho,hl.is⟩
 have ee:vs[k]?=vs.toList[k]?:=bL.symm
 match e:xs[k]? with
 |none=>wpAny_pyNext_list_end O.room.2.2 hi L (ee.trans (eZ (aF (aT hv.length) (nL.mp e)))) (next_end R Lo (k0 e))
 |some v=>(hv.get e).elim λ u hu=>(k1 v e).elim λ EG q=>wpAny_pyNext_list_item hi L (ee.trans hu.1) λ h' wz sb=>
   have al:∃o,h'.get? I=af o:=wz.imp λ aa=>eD
   have z:=R.MZ (s':={s with heap:=h'}) Lo (λ a o ne e=>sb.extBut a o ne e) al ⟨rfl,rfl,rfl⟩
   ⟨v,EG,z.1,z.2,hu.2,q.2.1 h' wz, .inr ⟨_,_,wz⟩,q.1,q.2.2⟩
theorem yz{α:Type}{xs:ae α}{k:Nat}(e:xs[k]?=none):xs.drop k=[]:=FD.mpr (nL.mp e)
theorem yA{α:Type}{xs:ae α}{k:Nat}{v:α}(e:xs[k]?=af v):xs.drop k=v::xs.drop (k+1):=by
 have h:=jk.mp e
 rw[← List.getElem_cons_drop h.1,h.2]
theorem CM(O:gH P ct F)(R:RF F ct.aR G ρ σ s)(Lo:Loose F G ρ s I){l:au}{p k:Nat}{o:Obj}{vs:bD am}{xs:ae AV}(hp:ρ[p]?=af l)(hi:s.heap.IsListIter I l k)(ho:s.heap.get? l=af o)(hl:iX o vs)(hv:bI G ρ xs vs.toList)(h:Uv (nJ xs k) p k K):NW P ct F G ρ σ I (.own p k) K s:=
 CJ O R Lo hi ho hl hv (λ e=>(ah (Uv · p k K) ((qx xs k).trans e)).mp h) λ v e=>⟨.own p (k+1),rfl,λ h' wz=>⟨l,hp,wz⟩,(ah (Uv · p k K) ((qx xs k).trans e)).mp h⟩
theorem wG(O:gH P ct F)(R:RF F ct.aR G ρ σ s)(Lo:Loose F G ρ s I)(it:HW G ρ s.heap I ik)(h:Ae ik σ.mem K):NW P ct F G ρ σ I ik K s:=by
 cases ik with
 |fz k rest=>
  obtain⟨l,o,vs,xs,hi,hg,hl,hv,rfl⟩:=it
  exact CJ O R Lo hi (R.rm.kg _ _ hg) hl hv (λ e=>(ah (λ r=>Ae (.fz k r) σ.mem K) (yz e)).mp h) λ v e=>⟨.fz (k+1) (xs.drop (k+1)),rfl,λ h' wz=>⟨l,o,vs,xs,wz,hg,hl,hv,rfl⟩,(ah (λ r=>Ae (.fz k r) σ.mem K) (yA e)).mp h⟩
 |own p k=>
  exact aD it λ l z=>pB.u h λ ao Xj h=>(R.rm.obj _ _ _ z.1 ((eI ..).symm.trans Xj)).elim λ ob q=>by
   rcases ao with xs|_|_|_|_|_|_|_
   case lst=>exact q.2.elim λ vs w=>CM O R Lo z.1 z.2 q.1 w.1 w.2 h
   case il=>exact q.2.elim λ vs w=>CM O R Lo z.1 z.2 q.1 w.1 (oN w.2) h
   all_goals exact h.elim
 |j6 n i c=>
  cases n with
  |zero=>exact wpAny_pyNext_range_end O.room.2.2 it (dR 0) (next_end R Lo h)
  |succ n=>
   refine Jm it (Int.ofNat_succ_pos n) λ h' wz sb=>?_
   rw[show((n+1:Nat):Int) - 1=(n:Nat) from Int.add_sub_cancel (n:Int) 1] at wz
   have z:=R.MZ (s':={s with heap:=h',toks:=s.toks+1}) Lo (λ a o ne e=>sb.extBut a o ne e) ⟨_,wz⟩ ⟨rfl,rfl,rfl⟩
   exact⟨.int i, .j6 n (i+c) c,z.1,z.2,VR.mA,wz, .inl rfl,rfl,h⟩
 |keys k rest=>
  obtain⟨d,o,es,ep,us,ks,hd,c,e,r,hi,rfl⟩:=it
  have ee:es[k]?=es.toList[k]?:=bL.symm
  cases q:ks[k]? with
  |none=>exact CN O.room.2.2 (R.rm.kg _ _ hd) c e hi (λ aa=>next_end R Lo ((ah (λ r=>Ae (.keys k r) σ.mem K) (yz q)).mp h)) λ en hx=>cu ((ee.trans (eZ (aF (aT r.len) (nL.mp q)))).symm.trans hx)
  |some k'=>
   obtain⟨e',h2,h3⟩:=r.at (ρ:=ρ) q
   refine CN O.room.2.2 (R.rm.kg _ _ hd) c e hi (λ hx=>cu (hx.symm.trans (ee.trans h2))) λ en hx h' wz sb=>?_
   obtain rfl:=ak (h2.symm.trans (ee.symm.trans hx))
   have al:∃o,h'.get? I=af o:=wz.imp λ aa=>eD
   have z:=R.MZ (s':={s with heap:=h'}) Lo (λ a o ne e=>sb.extBut a o ne e) al ⟨rfl,rfl,rfl⟩
   exact⟨_, .keys (k+1) (ks.drop (k+1)),z.1,z.2,h3,⟨d,o,es,ep,us,ks,hd,c,e,r,wz,rfl⟩, .inl rfl,rfl,(ah (λ r=>Ae (.keys k r) σ.mem K) (yA q)).mp h⟩
def Jz(lp:aC)(v:AV)(K:IK->Prop):Prop:=match v with
 | .lst xs=>K (.fz 0 xs)
 | .row ns=>K (.fz 0 (bU ns))
 | .own p=>K (.own p 0)
 | .j6 a b c=>cJ (lp&&Builtin.Range.small a b c) (K (.j6 (Builtin.Range.rangeSize a b c).toNat a c))
 | .bG ks _=>cJ lp (K (.keys 0 ks))
 |_=>False
def Iy(v:AV)(mem:ae AO)(K:Prop):Prop:=match v with
 | .own p=>pB mem p λ o=>match o with
  | .lst _=>K
  | .il _=>K
  |_=>False
 |_=>K
theorem sP(a b c:Int):0<=Builtin.Range.rangeSize a b c:=by
 unfold Builtin.Range.rangeSize
 split
 ·split
  ·have:=xw (a:=b - a - 1) (b:=c) (by omega) (by omega); omega
  ·exact dR _
 ·split
  ·have:=xw (a:=a - b - 1) (b:=-c) (by omega) (by omega); omega
  ·exact dR _
theorem Jz.u{lp:aC}{v:AV}{mem:ae AO}{K:IK->Prop}{Q:AV->Prop}(h:Iy v mem (Jz lp v K))(ko:∀p,Iy (.own p) mem (K (.own p 0))->Q (.own p))(kl:∀xs,K (.fz 0 xs)->Q (.lst xs))(kr:∀ns,K (.fz 0 (bU ns))->Q (.row ns))
  (kg:∀a b c,(lp&&Builtin.Range.small a b c)=true->K (.j6 (Builtin.Range.rangeSize a b c).toNat a c)->Q (.j6 a b c)) (kd:∀ks us,lp=true->K (.keys 0 ks)->Q (.bG ks us)):Q v:=by
 rcases v with _|_|_|_|_|p|_|_|_|_|_|xs|ns|_|_|⟨a,b,c⟩|_|⟨ks,us⟩
 case own=>exact ko p h
 case lst=>exact kl xs h
 case row=>exact kr ns h
 case j6=>exact cJ.u h (kg a b c)
 case bG=>exact cJ.u h (kd ks us)
 all_goals exact h.elim
theorem Iy.u{p:Nat}{mem:ae AO}{K Q:Prop}(h:Iy (.own p) mem K)(kl:∀xs,bK mem p=af (.lst xs)->K->Q)(ki:∀ns,bK mem p=af (.il ns)->K->Q):Q:=pB.u h λ o e h=>by
 rcases o with xs|_|_|_|_|_|_|_
 case lst=>exact kl xs e h
 case il ns=>exact ki ns e h
 all_goals exact h.elim
structure It1(F:Fd)(aR:ae bM)(G:BM)(ρ:ae au)(σ:St)(s:ar)(lp:aC)(K:IK->Prop)(I:au)(ik:IK)(s':ar):Prop where
 no:s.heap.get? I=none
 k:∀b o,s.heap.get? b=af o->s'.heap.get? b=af o
 z:s'.gens=s.gens/\s'.gens=s.gens/\s'.os=s.os
 R:RF F aR G ρ σ s'
 L:Loose F G ρ s' I
 i:HW G ρ s'.heap I ik
 n:ph ik=true\/lp=true
 h:K ik
def Rc(F:Fd)(aR:ae bM)(G:BM)(ρ:ae au)(σ:St)(s:ar)(lp:aC)(K:IK->Prop)(i:am)(s':ar):Prop:=∃I ik,i= .ref I/\It1 F aR G ρ σ s lp K I ik s'
theorem tG{aR:ae bM}{lp:aC}{K:IK->Prop}(R:RF F aR G ρ σ s)(o:Obj)(fr:o.isFreed=false)(hi:HW G ρ (s.heap.push o) s.heap.objs.size ik)(hn:ph ik=true\/lp=true)(k:K ik):Rc F aR G ρ σ s lp K (.ref s.heap.objs.size) {s with heap:=s.heap.push o}:=
 ⟨_,ik,rfl,R.K0,λ b o e=>aA _ e,⟨rfl,rfl,rfl⟩,R.grow (λ b o e=>aA _ e) ⟨rfl,rfl,rfl⟩,R.loose R.K0 ⟨_,aN _ fr⟩,hi,hn,k⟩
theorem sE{lp:aC}{K:IK->Prop}(R:RF F ct.aR G ρ σ s){l:au}{o:Obj}{vs:bD am}(ho:s.heap.get? l=af o)(hl:iX o vs)(e:ph ik=true)(k:K ik)(hi:∀(h:Heap) I,h.IsListIter I l 0->HW G ρ h I ik):aH (aE P.prog P.w) F.A (iz (.ref l)) (Rc F ct.aR G ρ σ s lp K) dq s:=
 xE ⟨o,ho,hl.is⟩ (tG R _ rfl (hi _ _ ⟨_,aN _ rfl,rfl,rfl⟩) (.inl e) k)
theorem rW{v:AV}{u:am}{lp:aC}{K:IK->Prop}(O:gH P ct F)(R:RF F ct.aR G ρ σ s)(va:VR G ρ v u)(h:Iy v σ.mem (Jz lp v K)):aH (aE P.prog P.w) F.A (iz u) (Rc F ct.aR G ρ σ s lp K) dq s:=
 Jz.u (Q:=λ v=>VR G ρ v u->aH (aE P.prog P.w) F.A (iz u) (Rc F ct.aR G ρ σ s lp K) dq s) h
  (λ p h va=>h.u (λ xs e k=>R.own va e (Q:=λ u=>aH (aE P.prog P.w) F.A (iz u) (Rc F ct.aR G ρ σ s lp K) dq s) λ l ob hl ho q=>aD q λ vs q=>sE R ho q.1 rfl k λ h I hi=>⟨l,hl,hi⟩)
   λ ns e k=>R.own va e (Q:=λ u=>aH (aE P.prog P.w) F.A (iz u) (Rc F ct.aR G ρ σ s lp K) dq s) λ l ob hl ho q=>aD q λ vs q=>sE R ho q.1 rfl k λ h I hi=>⟨l,hl,hi⟩)
  (λ xs k va=>va.lstU (Q:=λ u=>aH (aE P.prog P.w) F.A (iz u) (Rc F ct.aR G ρ σ s lp K) dq s) λ l o vs hg hl hv=>sE R (R.rm.kg _ _ hg) hl rfl k λ h I hi=>⟨l,o,vs,xs,hi,hg,hl,hv,rfl⟩)
  (λ ns k va=>va.C8 (Q:=λ u=>aH (aE P.prog P.w) F.A (iz u) (Rc F ct.aR G ρ σ s lp K) dq s) λ l o vs hg hl hv=>sE R (R.rm.kg _ _ hg) hl rfl k λ h I hi=>⟨l,o,vs,_,hi,hg,hl,oN hv,rfl⟩)
  (λ a b c hb k va=>aD va λ r z=>z.elim λ t z=>z.elim λ t' z=>z.elim λ t'' z=>z.1▸wpAny_pyIter_range (R.rm.kg _ _ z.2) (aG hb).2 (tG R _ rfl (ik:= .j6 (Builtin.Range.rangeSize a b c).toNat a c) ((ah (AM _ _ a · c) (sj (sP a b c))).mpr (aN _ rfl)) (.inr (aG hb).1) k))
  (λ ks us hb k va=>aD va λ d z=>z.elim λ o z=>z.elim λ es z=>z.elim λ ep z=>z.elim λ us z=>z.1▸Ls z.2.2.2.2.2.2.2 (R.rm.kg _ _ z.2.1) z.2.2.1 z.2.2.2.1 (tG R _ rfl (ik:= .keys 0 ks) ⟨d,o,es,ep,us,ks,z.2.1,z.2.2.1,z.2.2.2.1,z.2.2.2.2.1,⟨_,aN _ rfl,rfl,rfl⟩,rfl⟩ (.inr hb) k)) va
end
section
variable{P:cC}{ct:Ct}
noncomputable abbrev Body:=St->(Fl->St->Prop)->Prop
noncomputable def jo(set:AV->St->(St->Prop)->Prop)(b:Body):Nat->IK->St->(Fl->St->Prop)->Prop
 |0,_,_,_=>False
 |n+1,ik,σ,K=>Ae ik σ.mem λ r=>match r with
  |none=>K .d7 σ
  |some x=>set x.1 σ λ aI=>b aI λ f aU=>r7 f aU (λ dz=>jo set b n x.2 dz K) K
inductive LpI{P:cC}{ct:Ct}(t:TG P ct)(b:SS P ct)(F:Fd)(G₀:BM)(gE:ae au)(Kv:Fl->St->Prop)(I:au)(n:Nat)(s:ar):Prop
 |mk (G:BM) (ρ:ae au) (σ:St) (ik:IK) (g:dC G₀ G) (x:Ext gE ρ) (R:RF F ct.aR G ρ σ s) (L:Loose F G ρ s I) (i:HW G ρ s.heap I ik) (nm:ph ik=true\/t.lp=true) (h:jo t.set b.run n ik σ Kv)
theorem L9{lp:aC}{ik:IK}{A:Prop}(nm:ph ik=true\/lp=true)(l:ph ik=false\/A):lp=true\/A:=nm.elim (λ q=> .inr (l.resolve_left λ e=>nomatch q.symm.trans e)) .inl
theorem ET{t:TG P ct}{b:SS P ct}(Jv:t.b_=true)(cb:b.b_=true){F:Fd}(O:gH P ct F){G₀:BM}{gE:ae au}{Kv:Fl->St->Prop}{I:au}(n:Nat)(s:ar)(q:LpI t b F G₀ gE Kv I n s):
  dO P.j (aE P.prog P.w) F.A (.forLoop t.bA (.ref I) b.bA [] F.env) (λ r s'=>match r with | .ok f=>PF F ct.aR G₀ gE Kv f s' | .error _=>False) s:=by
 refine X.forLoop (LpI t b F G₀ gE Kv I) (λ n s q=>?_) n q
 cases q with|mk G ρ σ ik g x R L i nm h=>
 cases n with
 |zero=>exact h.elim
 |succ n=>
  refine X.any (cZ (wG O R L i h) (λ r s₁ z=>?_) λ aa aa z=>z)
  cases r with
  |none=>exact PF.d7 g x z.1 z.2
  |some u=>exact aD z λ v z=>z.elim λ EG z=>X.any (t.go _ _ I u _ (L9 nm z.l) (X.any (cZ (t.ok Jv (F.now G ρ s₁) G ρ σ _ v u _ (O.now z.R) z.R.now z.vr z.k) (λ aa bp y=>y.elim λ aI y=>
    X.mono (b.ok cb (F.now G ρ s₁) G ρ aI bp _ (O.now z.R) y.1 y.2) λ f fS w=>w.u λ rJ kZ fl dz ku kJ lu fr fE=>have y:=z.R.over z.L lu
     match fl,fr,fE with
     | .d7,fr,fE=>(show f= .next from fr).symm▸⟨n,jm n,rJ,kZ,dz,EG,g.trans ku,x.trans kJ,y.1,y.2.1,z.i.up ku kJ y.2.2,z.e▸nm,fE⟩
     | .ret v,fr,fE=>aD fr λ w e=>e.1.symm▸⟨rJ,kZ, .ret v,dz,g.trans ku,x.trans kJ,y.1,⟨w,rfl,e.2⟩,fE⟩) λ aa aa z=>z)))
def TJ(lp:aC)(set:AV->St->(St->Prop)->Prop)(b:Body)(v:AV)(σ:St)(K:Fl->St->Prop):Prop:=Iy v σ.mem (Jz lp v λ ik=>∃N,jo set b N ik σ K)
inductive DY where
 |fz (ts:ae TV)|own (p k:Nat)|j6 (n:Nat) (i c:Int)
def V1:DY->IK->Prop
 | .fz ts,x=>∃k xs,x= .fz k xs/\dD ts xs
 | .own p k,x=>x= .own p k
 | .j6 n i c,x=>x= .j6 n i c
def GNx:aq (TV×DY)->aq (AV×IK)->Prop
 |none,x=>x=none
 |some a,x=>∃b,x=af b/\GV a.1 b.1/\V1 a.2 b.2
noncomputable def Yd(p k:Nat)(t:aq TV):aq (TV×DY):=match t with
 |some t=>af (t, .own p (k+1))
 |none=>none
noncomputable def oIx(o:TO):aq {r:ae Int // o= .ix r}:=match o with
 | .ix r=>af ⟨r,rfl⟩
 |_=>none
noncomputable def ixk:ae Int->Nat->aq TV
 |x::_,0=>af (.ex (.int x))
 |_::r,k+1=>ixk r k
 |[],_=>none
def JX(ik:DY)(m:ae TO):aq (aq (TV×DY)):=match ik with
 | .fz []=>af none
 | .fz (t::r)=>af (af (t, .fz r))
 | .own p k=>ob (gR m p) λ o=>oe (ob (oLst o) λ vs=>af (Yd p k (Q0 vs.1 k))) (oe (ob (oIl o) λ q=>af (Yd p k (omk (VQ q.1 k)))) (ob (oIx o) λ r=>af (Yd p k (ixk r.1 k))))
 | .j6 0 _ _=>af none
 | .j6 (n+1) i c=>af (af (.ex (.int i), .j6 n (i+c) c))
where omk:aq (Int×Int)->aq TV
 |some q=>af (R5 q)
 |none=>none
def JF:aq TV->aq AV->Prop
 |none,w=>w=none
 |some t,w=>∃u,w=af u/\GV t u
theorem Ye{p k:Nat}{w:aq AV}:∀{o:aq TV},JF o w->∃r',GNx (Yd p k o) r'/\∀K:aq (AV×IK)->Prop,K r'->Uv w p k K
 |none,g=>(show w=none from g)▸⟨none,rfl,λ aa z=>z⟩
 |some _,g=>aD g λ u z=>z.1▸⟨af (u, .own p (k+1)),⟨_,rfl,z.2,rfl⟩,λ aa z=>z⟩
theorem No:∀{ts:ae TV} {us:ae AV} {i:Nat},dD ts us->JF (Q0 ts i) (nJ us i)
 |[],us,i,g=>g.u0 (Q:=λ us=>JF none (nJ us i)) (by cases i<;>rfl)
 |_::_,us,0,g=>g.uc (Q:=λ us=>JF (af _) (nJ us 0)) λ u aa gt aa=>⟨u,rfl,gt⟩
 |_::ts,us,i+1,g=>g.uc (Q:=λ us=>JF (Q0 ts i) (nJ us (i+1))) λ aa aa aa g=>No g
theorem Mw:∀{q:ae (Int×Int)} {r:ae Int} {i:Nat},qZ q r->JF (JX.omk (VQ q i)) (nJ (bU r) i)
 |[],r,i,g=>g.u0 (Q:=λ r=>JF none (nJ (bU r) i)) (by cases i<;>rfl)
 |_::_,r,0,g=>g.uc (Q:=λ r=>JF (af _) (nJ (bU r) 0)) λ x aa h0 h1 aa=>⟨.int x,rfl,tL h0 h1⟩
 |_::q,r,i+1,g=>g.uc (Q:=λ r=>JF (JX.omk (VQ q i)) (nJ (bU r) (i+1))) λ aa aa aa aa g=>Mw g
theorem Lw:∀(r:ae Int) (k:Nat),JF (ixk r k) (nJ (bU r) k)
 |[],k=>by cases k<;>rfl
 |x::_,0=>⟨.int x,rfl,rfl⟩
 |_::r,k+1=>Lw r k
theorem oe.u{α:Type}{x y:aq α}{a:α}{Q:Prop}(h:oe x y=af a)(k1:x=af a->Q)(k2:y=af a->Q):Q:=(sK h).elim k1 k2
abbrev ZG(r:aq (TV×DY))(x:IK)(m':ae AO):Prop:=∃r',GNx r r'/\∀K:aq (AV×IK)->Prop,K r'->Ae x m' K
theorem E3{p k:Nat}{w:aq AV}{o:aq TV}{r:aq (TV×DY)}{m':ae AO}(e:af (Yd p k o)=af r)(g:JF o w)(f:∀K,Uv w p k K->Ae (.own p k) m' K):ZG r (.own p k) m':=ak e▸(Ye g).imp λ aa=> .imp_right λ h K z=>f K (h K z)
theorem FY{ik:DY}{m:ae TO}{r:aq (TV×DY)}{x:IK}{m':ae AO}(h:JX ik m=af r)(g:V1 ik x)(gm:GM m m'):ZG r x m':=by
 cases ik with
 |fz ts=>
  exact aD g λ k z=>z.elim λ xs z=>z.1▸(match ts,z.2,h with
   |[],gx,h=>ak h▸dD.u0 (Q:=λ xs=>ZG none (.fz k xs) m') gx ⟨none,rfl,λ K z=>z⟩
   |t::ts,gx,h=>ak h▸gx.uc (Q:=λ xs=>ZG (af (t, .fz ts)) (.fz k xs) m') λ v us gv gu=>⟨af (v, .fz (k+1) us),⟨_,rfl,gv,_,_,rfl,gu⟩,λ K z=>z⟩)
 |own p k=>
  exact(show x= .own p k from g)▸ob.u h λ o ho h=>(gm.at ho).elim λ o' m1=>oe.u h
   (λ h=>ob.u h λ vs aa h=>aD (show GO m' (.lst vs.1) o' from vs.2▸m1.2) λ us q=>E3 h (No q.2) λ K z=>dF m1.1 (q.1.symm▸z))
   λ h=>oe.u h (λ h=>ob.u h λ q aa h=>aD (show GO m' (.il q.1) o' from q.2▸m1.2) λ us e=>E3 h (Mw e.2) λ K z=>dF m1.1 (e.1.symm▸z))
    λ h=>ob.u h λ r' aa h=>E3 h (Lw r'.1 k) λ K z=>dF m1.1 ((show o'= .il r'.1 from(r'.2▸m1.2:GO m' (.ix r'.1) o')).symm▸z)
 |j6 n i c=>
  exact(show x= .j6 n i c from g)▸(match n,h with
   |0,h=>ak h▸⟨none,rfl,λ K z=>z⟩
   |n+1,h=>ak h▸⟨af (.int i, .j6 n (i+c) c),⟨_,rfl,rfl,rfl⟩,λ K z=>z⟩)
def JJ(v:AV)(ts:ae TV):Prop:=∃xs,v= .lst xs/\dD ts xs
theorem LX{h t:TV}{v:AV}{ts:ae TV}(k:∀v,GV t v->JJ v ts)(g:GV (.lc h t) v):JJ v (h::ts):=
 aD g λ y g=>g.elim λ ys g=>g.1▸(k _ g.2.2).elim λ xs z=>⟨_,rfl,y,ys,rfl,g.2.1,AV.lst.inj z.1▸z.2⟩
noncomputable def Sr:(t:TV)->aq {ts:ae TV // ∀v,GV t v->JJ v ts}
 | .ln=>af ⟨[],λ v g=>⟨[],g,rfl⟩⟩
 | .lc h t=>ob (Sr t) λ ts=>af ⟨h::ts.1,λ v g=>LX ts.2 g⟩
 | .ex (.lst xs)=>af ⟨yD xs,λ v g=>⟨xs,g,k8 xs⟩⟩
 |_=>none
def LO(o':AO)(K:Prop):Prop:=match o' with
 | .lst _=>K
 | .il _=>K
 |_=>False
noncomputable def aby(o:TO):aq {u:e7 // ∀m o',GO m o o'->∀K:Prop,K->LO o' K}:=match o with
 | .lst _=>af ⟨(),λ m o' g K k=>aD g λ aa g=>g.1▸k⟩
 | .il _=>af ⟨(),λ m o' g K k=>aD g λ aa g=>g.1▸k⟩
 | .ix _=>af ⟨(),λ m o' g K k=>(show o'= .il _ from g)▸k⟩
 |_=>none
noncomputable def acy(t:TV):aq {r:Int×Int×Int // t= .ex (.j6 r.1 r.2.1 r.2.2)}:=match t with
 | .ex (.j6 a b c)=>af ⟨(a,b,c),rfl⟩
 |_=>none
abbrev aak(lp:aC)(t:TV)(s:AS)(ik:DY):Prop:=∀v σ,GV t v->GS s σ->∃x,V1 ik x/\∀K:IK->Prop,K x->Iy v σ.mem (Jz lp v K)
def aIt(lp:aC)(t:TV)(s:AS):aq {ik:DY // aak lp t s ik}:=
 oe (ob (Sr t) λ ts=>af ⟨.fz ts.1,λ v σ g gs=>(ts.2 v g).elim λ xs z=>z.1▸⟨.fz 0 xs,⟨0,xs,rfl,z.2⟩,λ K k=>k⟩⟩)
 (oe (ob (Vg t) λ r=>af ⟨.fz (yD (bU r.1)),λ v σ g gs=>ll g r.2▸⟨.fz 0 (bU r.1),⟨0,_,rfl,k8 _⟩,λ K k=>k⟩⟩)
 (oe (ob (acy t) λ r=>bE (lp&&Builtin.Range.small r.1.1 r.1.2.1 r.1.2.2) λ hb=>af ⟨.j6 (Builtin.Range.rangeSize r.1.1 r.1.2.1 r.1.2.2).toNat r.1.1 r.1.2.2,λ v σ g gs=>ll g r.2▸⟨_,rfl,λ K k=>cJ.i hb k⟩⟩)
 (ob (nK t) λ p=>jK (gR s.mem p.1) λ o ho=>ob (aby o) λ u=>af ⟨.own p.1 0,λ v σ g gs=>ll g p.2▸(gs.mem.at ho).elim λ o' m1=>⟨.own p.1 0,rfl,λ K k=>dF m1.1 (u.2 _ _ m1.2 _ k)⟩⟩)))
noncomputable def B3{set:AV->St->(St->Prop)->Prop}(st:(t:TV)->(s:AS)->aq {s':AS // yf set t s s'})(b:AS->aq (ae (AF×AS))):Nat->DY->AS->aq (ae (AF×AS))
 |0,_,_=>none
 |n+1,ik,s=>ob (JX ik s.mem) λ r=>match r with
  |none=>af [(.d7,s)]
  |some x=>ob (st x.1 s) λ s'=>bO (b s'.1) λ f s=>ZI f s (B3 st b n x.2)
theorem sx{set:AV->St->(St->Prop)->Prop}{st:(t:TV)->(s:AS)->aq {s':AS // yf set t s s'}}{ba:AS->aq (ae (AF×AS))}{b:Body}(hb:Ab ba b GF):∀(n:Nat) (ik:DY) (x:IK),V1 ik x->Ab (B3 st ba n ik) (jo set b n x) GF
 |0,_,_,_=>λ aa aa h=>nomatch h
 |n+1,ik,x,g=>λ s outs h σ gs=>ob.u h λ r e h=>(FY e g gs.mem).elim λ r' z=>match r,z.1,h with
  |none,gr,h=>D2.one h rfl gs λ K w=>z.2 _ ((show r'=none from gr)▸w)
  |some y,gr,h=>aD gr λ q gq=>ob.u h λ s' aa h=>(s'.2 q.1 σ gq.2.1 gs).elim λ bZ k'=>
   (hb.bind h k'.1 λ f bp l₂ cU a aU ga nZ=>D1 (C:=λ aU K=>jo set b n q.2 aU K) (sx hb n y.2 q.2 gq.2.2) cU ga nZ).eq λ K w=>z.2 _ (gq.1.symm▸k'.2 _ w)
def YN(t:TG P ct)(e:SE P ct)(b:SS P ct)(p:c7):SX P ct where
 bA:= .For t.bA e.bA b.bA [] p
 run:=λ σ K=>e.run σ λ v aI=>TJ t.lp t.set b.run v aI K
 b_:=vg 3 e.bA&&(t.b_&&(e.b_&&b.b_))
 ok:=λ c F G ρ σ s Kv O R h=>have d:=(w8 (aG c).1).1; have c:=(aG c).2; X.For (d _) (X.mono (e.ok (aG (aG c).2).1 F G ρ σ s _ O R h) λ u s₁ z=>z.u λ dU c6 v aI fG fb dQ va bH=>
  X.any (cZ (rW O dQ va bH) (λ i bp z=>z.elim λ I z=>z.elim λ ik z=>z.1▸z.2.h.elim λ N cU=>ET (aG c).1 (aG (aG c).2).2 O N bp ⟨dU,c6,aI,ik,fG,fb,z.2.R,z.2.L,z.2.i,z.2.n,cU⟩) λ aa aa z=>z))
 ab:=JZ e.ab λ v s=>ob (aIt t.lp v s) λ ik=>B3 t.st b.ab 12 ik.1 s
 cN:=λ fo=>nA fo λ v s outs a σ h ga gs=>ob.u h λ ik aa h=>(ik.2 a σ ga gs).elim λ x z=>(sx (b.cN fo) 12 ik.1 x z.1 s outs h σ gs).eq λ K w=>z.2 _ ⟨12,w⟩
end
namespace X
section
variable{α β:Type}{J:aC}{M:ir}{A:bn}{s:ar}{env:Env}
theorem J6{m:ie α}{Q:Except am α->ar->Prop}(h:cK J M A m (λ a s'=>Q (.ok a) s') s):cK J M A m.attempt Q s:=λ Γ p a c=>by
 rw[Sem.wp_attempt]
 exact ox M Γ m (λ aa aa aa z=>z) (λ aa aa aa f=>f.elim) p s (h Γ p a c)
def zG(J:aC)(M:ir)(A:bn)(use:aq (am->ie e7))(Q:am->ar->Prop)(acc:am)(C:au)(s':ar):Prop:=match use with
 |none=>∃m,s'.heap.Ns C m/\∀h',kS C s'.heap h'->Q acc {s' with heap:=h'}
 |some u=>cK J M A (u acc) (λ aa s''=>∃m,s''.heap.Ns C m/\∀h',kS C s''.heap h'->Q .none {s'' with heap:=h'}) s'
theorem comprehension{e:aB}{scope:qF}{pos:c7}{Ma first:ie am}{g:i5}{gs:ae i5}{cl:ae (bM×au)}{use:aq (am->ie e7)}{Q:am->ar->Prop}
  (hcl:clausesOf e=g::gs) (hs:∀x,d_ g.iter env x=pure x) (Xm:DQ scope env=pure cl) (yJ:scope.kind= .function) (T0:∀x∈scope.names,x.2= .local->scope.names.lookup x.1=af .local)
  (h:cK J M A first (λ x s₁=>cK J M A (iz x) (λ it bp=>cK J M A Ma (λ acc fS=>cK J M A (newFunctionEnv scope env.globals cl [] env.qual none .none (af env)) (λ cenv sY=>
    dO J M A (.compStart e 0 it acc {cenv with scope:=rF scope env}) (λ r s'=>match r with | .ok _=>zG J M A use Q acc cenv.locals s' | .error _=>False) sY) fS) bp) s₁) s):
  cK J M A (rC e scope env pos Ma false first use) Q s:=by
 unfold rC
 rw[Xm,hcl]
 refine cL (mono h λ x s₁ bH=>at_ (cL (WX (hs x) (cL (holds (mono bH λ it bp cU=>?_))))))
 have Y1:∀{γ:Type} {c:Prop} [fA c] {pos:c7} {k:PUnit->ie γ} {Q:γ->ar->Prop} {s:ar},cK J M A (k ()) Q s->cK J M A (if c then (di pos>>=k) else k ()) Q s:=λ{_ c _ _ _ _ _} h=>by
  by_cases q:c
  ·rw[dj q]; exact at_ h
  ·rw[bC q]; exact h
 refine Y1 (cL (mono cU λ acc fS fE=>cL (ret (cL (mono fE λ cenv sY nH=>?_)))))
 dsimp only
 have hv:∀l:ae (bM×dJ),(∀x∈l,x∈scope.names.filter λ x=>(x.2== .local||x.2== .cell)&&x.1 !=(".0":bM))->∀x∈l,x.2= .local->Env.kindOf {cenv with scope:=rF scope env} x.1=af .local:=
  λ l hl x hx e=>lookup_relabel_local (T0 x (List.mem_filter.mp (hl x hx)).1 e)
 refine holds (cL (J6 (holds (runs rfl (eh nH λ r s' hr=>?_)))))
 cases r with
 |error x=>exact hr.elim
 |ok f=>
  cases use with
  |none=>
   obtain⟨m,hn,hr⟩:=hr
   exact cL (holds (any (wpAny_comp_letGo (cenv:={cenv with scope:=rF scope env}) yJ _ s' m (hv _ λ x hx=>uX.mp hx) hn λ h' m' aa Xu=>ret (hr h' Xu))))
  |some u=>
   refine cL (any (mv (cL (holds (mono hr λ aa s'' hr'=>?_)))))
   obtain⟨m,hn,hr'⟩:=hr'
   refine cL (any (wpAny_comp_letGo (cenv:={cenv with scope:=rF scope env}) yJ _ s'' m (hv _ λ x hx=>?_) hn λ h' m' aa Xu=>ret (hr' h' Xu)))
   rcases fJ.mp hx with h1|h1
   ·exact uX.mp (FF h1)
   ·exact uX.mp (FG h1)
end
section
variable{J:aC}{prog:aK}{w:bw}{A:bn}{s:ar}{R:iP->ar->Prop}{elt:aB}{gens:ae i5}{scope:qF}{pos:c7}{depth:Nat}{it acc:am}{env:Env}
theorem compStart(ha:((gens)[depth]?).elim false (λ g=>g.is_async !=0)=false)
  (h0:dO J (aE prog w) A (.compLoop (.ListComp elt gens scope pos) depth it acc env) R s)
  (h:cK J (aE prog w) A (iz it) (λ wz s'=>dO J (aE prog w) A (.compLoop (.ListComp elt gens scope pos) depth wz acc env) R s') s):
  dO J (aE prog w) A (.compStart (.ListComp elt gens scope pos) depth it acc env) R s:=by
 refine tree ?_
 show cK J _ A ((PySem.compStart (.ListComp elt gens scope pos) depth it acc env).onRaise (λ x=>do qJ x env; di theWindowsPlace)) _ s
 refine raises ?_
 unfold PySem.compStart
 have e:((clausesOf (.ListComp elt gens scope pos))[depth]?).elim false (·.is_async !=0)=false:=ha
 rw[e]
 show cK J _ A (ask>>=_) _ s
 refine cL (any (iA ?_))
 have fin:∀{wz:am} {s':ar},dO J (aE prog w) A (.compLoop (.ListComp elt gens scope pos) depth wz acc env) R s'->cK J (aE prog w) A (qH (.compLoop (.ListComp elt gens scope pos) depth wz acc env))
   (λ fin s'=>match fin with | .done f=>R (.ok f) s' | .again c'=>c'.quiet=true/\CR c'=true/\dO J (aE prog w) A c' R s') s':=λ h=>ret ⟨rfl,rfl,h⟩
 split
 ·exact fin h0
 ·refine cL (any (mv ?_))
  dsimp only
  split
  ·refine at_ (cL (mono h λ wz s' h'=>fin h'))
  ·exact cL (mono h λ wz s' h'=>fin h')
theorem compLoop{t:aB}{tail:ie PySem.Fin}(ip:c7)(ht:mT (.ListComp elt gens scope pos) depth it acc env=(di ip>>=λ aa=>gG it>>=λ r=>match r with
   |none=>pure (.done .next)
   |some v=>du t it v>>=λ aa=>assign t env v>>=λ aa=>tail))
  (I:Nat->ar->Prop)
  (turn:∀n s,I n s->cK J (aE prog w) A (gG it) (λ r s₁=>match r with
   |none=>R (.ok .next) s₁
   |some v=>cK J (aE prog w) A (du t it v) (λ aa M9=>cK J (aE prog w) A (assign t env v) (λ aa bp=>cK J (aE prog w) A tail (λ fin fS=>fin= .again (.compLoop (.ListComp elt gens scope pos) depth it acc env)/\∃m,m < n/\I m fS) bp) M9) s₁) s)
  (n:Nat) (h:I n s):dO J (aE prog w) A (.compLoop (.ListComp elt gens scope pos) depth it acc env) R s:=by
 induction n using xz generalizing s with
 |ind n ih=>
  refine tree ?_
  show cK J _ A ((mT (.ListComp elt gens scope pos) depth it acc env).onRaise (λ x=>do qJ x env; kW x)) _ s
  refine raises ?_
  rw[ht]
  refine at_ (cL (mono (turn n s h) λ r s₁ bH=>?_))
  cases r with
  |none=>exact ret bH
  |some v=>
   refine cL (mono bH λ aa bp cU=>cL (mono cU λ aa fS fE=>mono fE λ fin sY nH=>?_))
   obtain⟨rfl,m,hm,hI⟩:=nH
   exact⟨rfl,rfl,ih m hm hI⟩
noncomputable def wc(elt:aB)(env:Env)(acc:am):ie e7:=do let _ ← call (.builtin "list.append") [acc,← eval elt env]
theorem Zh{t i:aB}:mT (.ListComp elt [⟨t,i,[],0⟩] scope pos) 0 it acc env=(di i.pos>>=λ aa=>gG it>>=λ r=>match r with
   |none=>pure (.done .next)
   |some v=>du t it v>>=λ aa=>assign t env v>>=λ aa=>(wc elt env acc>>=λ aa=>qH (.compLoop (.ListComp elt [⟨t,i,[],0⟩] scope pos) 0 it acc env))):=by rfl
theorem Vm{t i c:aB}:mT (.ListComp elt [⟨t,i,[c],0⟩] scope pos) 0 it acc env=(di i.pos>>=λ aa=>gG it>>=λ r=>match r with
   |none=>pure (.done .next)
   |some v=>du t it v>>=λ aa=>assign t env v>>=λ aa=>(do
     let s ← forIn [c] true λ c s=>if s=true then (kN c env (eval c env)>>=λ ok=>pure (oj ok)) else pure (oj s)
     if s=true then (wc elt env acc>>=λ aa=>qH (.compLoop (.ListComp elt [⟨t,i,[c],0⟩] scope pos) 0 it acc env)) else qH (.compLoop (.ListComp elt [⟨t,i,[c],0⟩] scope pos) 0 it acc env))):=by rfl
theorem Vn{t i:aB}{g:i5}:mT (.ListComp elt [g,⟨t,i,[],0⟩] scope pos) 1 it acc env=(di i.pos>>=λ aa=>gG it>>=λ r=>match r with
   |none=>pure (.done .next)
   |some v=>du t it v>>=λ aa=>assign t env v>>=λ aa=>(wc elt env acc>>=λ aa=>qH (.compLoop (.ListComp elt [g,⟨t,i,[],0⟩] scope pos) 1 it acc env))):=by rfl
theorem QW{t i t' i':aB}{cs:ae aB}:mT (.ListComp elt [⟨t,i,[],0⟩,⟨t',i',cs,0⟩] scope pos) 0 it acc env=(di i.pos>>=λ aa=>gG it>>=λ r=>match r with
   |none=>pure (.done .next)
   |some v=>du t it v>>=λ aa=>assign t env v>>=λ aa=>(do
     let x ← eval i' env
     di i'.pos
     let x ← d_ i' env x
     let _ ← runOwn (.compStart (.ListComp elt [⟨t,i,[],0⟩,⟨t',i',cs,0⟩] scope pos) 1 (← holding [x] (iz x)) acc env) env
     qH (.compLoop (.ListComp elt [⟨t,i,[],0⟩,⟨t',i',cs,0⟩] scope pos) 0 it acc env))):=by rfl
end
end X
noncomputable def M5(env:Env)(p:bM×dJ)(acc:ae (bM×au)):ae (bM×au):=if p.2== .free then (match env.cells.lookup p.1 with|some c=>(p.1,c)::acc|none=>acc) else acc
noncomputable def kt(env:Env):ae (bM×dJ)->ae (bM×au)->ae (bM×au)
 |[],acc=>acc
 |p::r,acc=>kt env r (M5 env p acc)
theorem M5.u{env:Env}{p:bM×dJ}{acc:ae (bM×au)}{Q:ae (bM×au)->Prop}(k0:Q acc)(k1:∀c,env.cells.lookup p.1=af c->Q ((p.1,c)::acc)):Q (M5 env p acc):=by
 unfold M5
 split
 ·cases e:env.cells.lookup p.1 with
  |none=>exact k0
  |some c=>exact k1 c e
 ·exact k0
theorem M6{env:Env}{n:bM}{c:au}{acc:ae (bM×au)}(h:env.cells.lookup n=af c):M5 env (n, .free) acc=(n,c)::acc:=by
 unfold M5
 rw[h]; rfl
noncomputable abbrev Sub(env:Env)(acc:ae (bM×au)):Prop:=∀y d,acc.lookup y=af d->env.cells.lookup y=af d
theorem M7{env:Env}{n:bM}{c:au}{acc:ae (bM×au)}(h:Sub env acc)(hc:env.cells.lookup n=af c):Sub env ((n,c)::acc):=λ y d q=>by
 rw[g9] at q
 cases e:y==n with
 |true=>rw[e] at q; exact(ah (λ x=>env.cells.lookup x) (be.mp e)).trans (hc.trans q)
 |false=>rw[e] at q; exact h y d q
theorem Hu{env:Env}{p:bM×dJ}{acc:ae (bM×au)}(h:Sub env acc):Sub env (M5 env p acc):=M5.u (Q:=Sub env) h λ aa=>M7 h
theorem v7{scope:qF}{env:Env}(h:∀x∈scope.names,x.2= .free->∃c,env.cells.lookup x.1=af c):DQ scope env=pure (kt env scope.names []):=by
 have go:∀(l:ae (bM×dJ)) (acc:ae (bM×au)),(∀x∈l,x.2= .free->∃c,env.cells.lookup x.1=af c)->
   (forIn l acc λ(x:bM×dJ) (cs:ae (bM×au))=>(do
    if x.2== .free then do
     let c ← cellOf env x.1
     pure (oj ((x.1,c)::cs))
    else pure (oj cs):ie _))=(pure (kt env l acc):ie _):=by
  intro l
  induction l with
  |nil=>intro acc _; rfl
  |cons x r ih=>
   intro acc hx
   obtain⟨n,k⟩:=x
   rw[xk]
   show _=pure (kt env r (M5 env (n,k) acc))
   unfold M5
   by_cases hk:(k==xo)=true
   ·obtain⟨c,hc⟩:=hx (n,k) aW (by simpa using hk)
    simp only[hk,if_true,hc]
    have e:cellOf env n=pure c:=by unfold cellOf; rw[hc]
    rw[e]
    exact ih _ λ y hy=>hx y (aQ _ hy)
   ·simp only[hk]
    exact ih _ λ y hy=>hx y (aQ _ hy)
 unfold DQ
 have:=go scope.names [] h
 exact(ah (λ m=>m>>=λ cs=>pure cs) this).trans rfl
theorem rP{env:Env}:∀(l:ae (bM×dJ)) (acc:ae (bM×au)),(∀x c,acc.lookup x=af c->env.cells.lookup x=af c)->∀x c,(kt env l acc).lookup x=af c->env.cells.lookup x=af c
 |[],_,h=>h
 |_::r,_,h=>rP r _ (Hu h)
theorem K6{x n:bM}{c:au}{acc:ae (bM×au)}(h:(acc.lookup x).isSome=true):(((n,c)::acc).lookup x).isSome=true:=by
 rw[g9]
 cases x==n
 ·exact h
 ·rfl
theorem K7{x:bM}{c:au}{acc:ae (bM×au)}:(((x,c)::acc).lookup x).isSome=true:=by
 rw[g9,qK]; rfl
theorem tD{env:Env}{x:bM}{c:au}(hc:env.cells.lookup x=af c):∀(l:ae (bM×dJ)) (acc:ae (bM×au)),(∀y d,acc.lookup y=af d->env.cells.lookup y=af d)->(acc.lookup x).isSome=true\/(x,xo)∈l->(kt env l acc).lookup x=af c
 |[],acc,h,q=>(js.mp (q.resolve_right bN)).elim λ d hd=>hd.trans ((h x d hd).symm.trans hc)
 |p::r,acc,h,q=>tD hc r _ (Hu h) (q.elim (λ q=> .inl (M5.u (Q:=λ acc=>(acc.lookup x).isSome=true) q λ aa aa=>K6 q)) λ m=>(bW.mp m).elim (λ e=> .inl (e▸(ah (λ a=>(a.lookup x).isSome=true) (M6 (acc:=acc) hc)).mpr K7)) .inr)
noncomputable def Fa(outer:ae (bM×dJ))(l:ae (bM×dJ)):ae (bM×dJ):=l.map λ x=>if x.2== .free&&outer.lookup x.1==af .cell then (x.1, .cell) else x
structure xq where
 scope:qF
 aR:ae bM
 src:ae (aq Nat)
noncomputable def xq.ct(B:xq)(ct:Ct):Ct:=⟨Fa ct.names B.scope.names,B.aR,true,false,false⟩
noncomputable def Dl(ct:Ct)(scope:qF):ae bM->ae (aq Nat)->aC
 |x::r,none::t=>(scope.names.lookup x==af .local)&&Dl ct scope r t
 |x::r,af i::t=>(ct.aR[i]?==af x)&&(scope.names.lookup x==af .free)&&(ct.names.lookup x==af .cell)&&Dl ct scope r t
 |[],[]=>true
 |_,_=>false
noncomputable def Ad:ae bM->aC
 |[]=>true
 |x::r=>!r.contains x&&Ad r
theorem qw:∀{l:ae bM},Ad l=true->l.Nodup
 |[],_=>f8
 |x::r,h=>dS.mpr ⟨λ m=>ay ((ah (!·) (DK.mpr m)).symm.trans (aG h).1),qw (aG h).2⟩
def xq.ok(B:xq)(ct:Ct):aC:=(B.scope.kind== .function)&&Dl ct B.scope B.aR B.src&&Ad B.aR&&
 B.scope.names.all (λ x=>(x.2 != .cell)&&(x.2 != .local||B.scope.names.lookup x.1==af .local)&&(x.2 != .free||(ct.names.lookup x.1==af .cell)))
noncomputable def sD(l:ae AV):ae (aq Nat)->ae AV
 |none::r=> .undef::sD l r
 |some i::r=>fy l i::sD l r
 |[]=>[]
theorem tQ{ct:Ct}{scope:qF}:∀{aR:ae bM} {src:ae (aq Nat)} {l:ae AV} {i:Nat} {x:bM} {v:AV},Dl ct scope aR src=true->aR[i]?=af x->(sD l src)[i]?=af v->v≠ .undef->
  ∃j,ct.aR[j]?=af x/\scope.names.lookup x=af .free/\ct.names.lookup x=af .cell/\fy l j=v
 |_::_,none::_,_,0,_,_,_,_,e2,n=>bt (ak e2).symm n
 |_::r,none::t,l,i+1,_,_,h,e1,e2,n=>tQ (aR:=r) (src:=t) (i:=i) (aG h).2 e1 e2 n
 |_::_,af j::_,_,0,_,_,h,e1,e2,_=>have h1:=aG (aG h).1; have h2:=aG h1.1
  ⟨j,(be.mp h2.1).trans e1,ak e1▸be.mp h2.2,ak e1▸be.mp h1.2,ak e2⟩
 |_::r,af _::t,l,i+1,_,_,h,e1,e2,n=>tQ (aR:=r) (src:=t) (i:=i) (aG h).2 e1 e2 n
 |[],_,_,_,_,_,_,e1,_,_=>cu e1
 |_::_,[],_,_,_,_,h,_,_,_=>nomatch h
noncomputable def YB(outer:ae (bM×dJ))(n:bM)(k:dJ):dJ:=if k== .free&&outer.lookup n==af .cell then .cell else k
theorem UM{outer:ae (bM×dJ)}(x:bM×dJ):(if x.2== .free&&outer.lookup x.1==af .cell then (x.1, .cell) else x)=(x.1,YB outer x.1 x.2):=by
 unfold YB
 split<;>rfl
theorem mD{outer:ae (bM×dJ)}:∀{l:ae (bM×dJ)} {x:bM},(Fa outer l).lookup x=(l.lookup x).map λ k=>if k== .free&&outer.lookup x==af .cell then .cell else k
 |[],_=>rfl
 |p::r,x=>by
  have ih:=@mD outer r x
  show((if p.2== .free&&outer.lookup p.1==af .cell then (p.1,NameKind.cell) else p)::Fa outer r).lookup x=(((p.1,p.2)::r).lookup x).map _
  rw[UM,g9,g9]
  cases hx:x==p.1 with
  |true=>rw[be.mp hx]; rfl
  |false=>exact ih
section
variable{P:cC}{ct:Ct}
noncomputable def pg(F:Fd)(B:xq)(C:au)(s:ar)(ρ:ae au)(G:BM):Fd:=
 {A:=F.A,env:={newEnv B.scope C F.env.globals (kt F.env B.scope.names []) F.env.qual none .none (af F.env) mq with scope:=rF B.scope F.env},h₀:=s.heap,gE:=ρ,G₀:=G,Z:=s,ro:=true}
theorem yn{B:xq}(h:B.ok ct=true):B.scope.kind= .function/\Dl ct B.scope B.aR B.src=true/\B.aR.Nodup/\(∀x∈B.scope.names,x.2≠ .cell)/\(∀x∈B.scope.names,x.2= .local->B.scope.names.lookup x.1=af .local)/\(∀x∈B.scope.names,x.2= .free->ct.names.lookup x.1=af .cell):=by
 have h1:=aG h; have h2:=aG h1.1; have h3:=aG h2.1
 have d:=λ x hx=>aG (bj.mp h1.2 x hx)
 exact⟨be.mp h3.1,h3.2,qw h2.2,λ x hx=>rI.mp (aG (d x hx).1).1,λ x hx e=>be.mp (((g6).mp (aG (d x hx).1).2).resolve_left λ n=>rI.mp n e),λ x hx e=>be.mp (((g6).mp (d x hx).2).resolve_left λ n=>rI.mp n e)⟩
theorem re{B:xq}{F:Fd}(O:gH P ct F):(rF B.scope F.env).names=Fa ct.names B.scope.names:=by
 unfold rF Fa
 refine se λ x aa=>?_
 obtain⟨n,k⟩:=x
 have e:F.env.kindOf n=ct.names.lookup n:=by unfold Env.kindOf; rw[O.names]
 show(if (k== .free&&F.env.scope.kind== .function&&F.env.kindOf n==af .cell)=true then (n,NameKind.cell) else (n,k))=_
 rw[O.kind,e]
 simp
theorem H9{B:xq}(hb:B.ok ct=true){F:Fd}{G:BM}{ρ ρ':ae au}{σ:St}{mem':ae AO}{s s' s'':ar}{C:au}(O:gH P ct F)(R:RF F ct.aR G ρ σ s)(x:Ext ρ ρ')
  (R':RF F ct.aR G ρ' ⟨σ.loc,mem'⟩ s') (k':∀b o,s.heap.get? b=af o->s'.heap.get? b=af o) (z':s'.gens=s.gens/\s'.gens=s.gens/\s'.os=s.os) (nw:∀a∈ρ',a∈ρ\/s.heap.get? a=none)
  (hC:s'.heap.get? C=none) (hn:s''.heap.Ns C (λ aa=>none)) (k:∀b o,s'.heap.get? b=af o->s''.heap.get? b=af o) (z:s''.gens=s'.gens/\s''.gens=s'.gens/\s''.os=s'.os):
  gH P (B.ct ct) (pg F B C s ρ G)/\RF (pg F B C s ρ G) B.aR G ρ' ⟨sD σ.loc B.src,mem'⟩ s'':=by
 obtain⟨b1,b2,b3,b4,b5,b6⟩:=yn hb
 have kn:∀y,(pg F B C s ρ G).env.kindOf y=(Fa ct.names B.scope.names).lookup y:=λ y=>by show(rF B.scope F.env).names.lookup y=_; rw[re O]
 have lk:∀y c,(kt F.env B.scope.names []).lookup y=af c->F.env.cells.lookup y=af c:=λ y c e=>rP _ [] (λ aa aa q=>by cases q) y c e
 have kF:∀y,F.env.kindOf y=ct.names.lookup y:=λ y=>by unfold Env.kindOf; rw[O.names]
 have cellK:∀y,(Fa ct.names B.scope.names).lookup y=af .cell->(y,xo)∈B.scope.names/\ct.names.lookup y=af .cell:=λ y e=>by
  rw[mD] at e
  obtain⟨kk,e1,e2⟩:=eH.mp e
  have hm:=mem_of_lookup e1
  split at e2
  ·rename_i q
   rw[jf,be,be] at q
   rw[q.1] at hm
   exact⟨hm,q.2⟩
  ·subst e2; exact bt rfl (b4 _ hm)
 have ne:∀a o,s'.heap.get? a=af o->a≠C:=λ a o e q=>by subst q; rw[hC] at e; cases e
 have Gn:G C=none:=by
  cases e:G C with
  |none=>rfl
  |some o=>have:=R'.rm.kg C o e; rw[hC] at this; cases this
 refine⟨⟨b1,?_,O.glob,O.blt,O.room,R.i7 O,b3,rfl,λ y e=>?_,λ e=>(nomatch e),λ e=>(nomatch e)⟩,⟨R'.rm.keeps k,⟨_,hn⟩,λ i y v e e' n=>?_,Gn,λ hm=>?_,λ y c e=>?_,λ y y' c e e'=>R.pY y y' c (lk _ _ e) (lk _ _ e'),λ a o aa aa e=>k a o (k' a o e),λ a o e=>⟨o,k a o (k' a o e)⟩,x,nw,dC.refl _,λ aa aa e=> .inl e,?_⟩⟩
 ·show(rF B.scope F.env).names=_; exact re O
 ·obtain⟨hm,hc⟩:=cellK y e
  obtain⟨c,ZU⟩:=O.cells y hc
  exact⟨c,tD ZU _ [] (λ aa aa q=>by cases q) (.inr hm)⟩
 ·obtain⟨j,j1,j2,j3,j4⟩:=tQ b2 e e' n
  obtain⟨u,vu,a⟩:=R'.loc j y v j1 (qu _ _ _ j4 n) n
  refine⟨u,vu,?_⟩
  rcases a with⟨ka,_⟩|⟨_,c,hc,hv⟩
  ·rw[kF,j3] at ka; cases ka
  ·refine .inr ⟨.inl ?_,c,tD hc _ [] (λ aa aa q=>by cases q) (.inr (mem_of_lookup j2)),hv.keeps k⟩
   rw[kn,mD,j2,j3]; rfl
 ·obtain⟨o,ho⟩:=R'.rm.some_of hm; rw[show(pg F B C s ρ G).env.locals=C from rfl,hC] at ho; cases ho
 ·obtain⟨c1,c2,⟨v,hv⟩,c4⟩:=R'.cell y c (lk _ _ e)
  obtain⟨o,ho,_⟩:=id hv
  exact⟨ne c o ho,c2,⟨v,hv.keeps k⟩,λ q=>c4 (by rw[kF]; rw[kn] at q; exact(cellK y q).2)⟩
 ·have h1:s''.gens=s.gens:=z.1.trans z'.1
  exact GZ.of ⟨h1,h1,z.2.2.trans z'.2.2⟩
theorem Kg{B:xq}{F:Fd}{G G':BM}{ρ ρ':ae au}{σ bZ:St}{s s' s'':ar}{C:au}(O:gH P ct F)(R:RF F ct.aR G ρ σ s)(hC:s.heap.get? C=none)(R':RF (pg F B C s ρ G) B.aR G' ρ' bZ s')
  (k:∀b o,b≠C->s'.heap.get? b=af o->s''.heap.get? b=af o) (z:s''.gens=s'.gens/\s''.gens=s'.gens/\s''.os=s'.os):RF F ct.aR G' ρ' ⟨σ.loc,bZ.mem⟩ s'':=by
 have kp:∀a o,a∉ρ->s.heap.get? a=af o->s''.heap.get? a=af o:=λ a o n e=>
  k a o (λ q=>by subst q; rw[hC] at e; cases e) (R'.keep a o n ⟨λ q=>(by rw[q] at e; rw[show(pg F B C s ρ G).env.locals=C from rfl,hC] at e; cases e),λ q=>(by cases q)⟩ e)
 refine R.Hs R'.ext R'.B9 (R'.rm.Ht λ a o q e=>k a o (λ h=>?_) e) R'.nw R'.A2 kp ?_
 ·subst h
  rcases q with q|q
  ·exact R'.A3 q
  ·have:=R'.lG; rw[show(pg F B a s ρ G).env.locals=a from rfl,q] at this; cases this
 ·exact R'.gz.trans (GZ.of z)
end
section
variable{P:cC}{ct:Ct}
theorem wA{F:Fd}{G:BM}{ρ:ae au}{s:ar}{I:au}{ik:IK}{Q:am->ar->Prop}(it:HW G ρ s.heap I ik)(q:Q (.ref I) s):aH (aE P.prog P.w) F.A (iz (.ref I)) Q dq s:=by
 cases ik with
 |fz k rest=>exact ZF.casesOn (motive:=λ aa=>aH (aE P.prog P.w) F.A (iz (.ref I)) Q dq s) it λ aa aa aa aa i aa aa aa aa=>wpAny_pyIter_listiter i q
 |own p k=>exact aD it λ l z=>wpAny_pyIter_listiter z.2 q
 |j6 n i c=>exact wpAny_pyIter_rangeiter it q
 |keys k rest=>exact ZE.casesOn (motive:=λ aa=>aH (aE P.prog P.w) F.A (iz (.ref I)) Q dq s) it λ aa aa aa aa aa aa aa aa aa aa i aa=>wpAny_pyIter_keyiter i q
noncomputable abbrev Jo:=St->(St->Prop)->Prop
noncomputable def k7(set:AV->St->(St->Prop)->Prop)(b:Jo):Nat->IK->St->(St->Prop)->Prop
 |0,_,_,_=>False
 |n+1,ik,σ,K=>Ae ik σ.mem λ r=>match r with
  |none=>K σ
  |some x=>set x.1 σ λ aI=>b aI λ aU=>k7 set b n x.2 aU K
inductive PT(F:Fd)(aR:ae bM)(G:BM)(ρ:ae au)(K:St->Prop)(s':ar):Prop
 |mk (G':BM) (ρ':ae au) (bZ:St) (g:dC G G') (x:Ext ρ ρ') (R:RF F aR G' ρ' bZ s') (k:K bZ)
theorem PT.u{F:Fd}{aR:ae bM}{G:BM}{ρ:ae au}{K:St->Prop}{s:ar}{Q:Prop}(z:PT F aR G ρ K s)(k:∀G' ρ' bZ,dC G G'->Ext ρ ρ'->RF F aR G' ρ' bZ s->K bZ->Q):Q:=PT.casesOn (motive:=λ aa=>Q) z k
theorem PT.up{F:Fd}{aR:ae bM}{G G':BM}{ρ ρ':ae au}{K:St->Prop}{s:ar}(g:dC G G')(x:Ext ρ ρ')(h:PT F aR G' ρ' K s):PT F aR G ρ K s:=
 h.u λ a b c d e f k=>⟨a,b,c,g.trans d,x.trans e,f,k⟩
def Piece(P:cC)(ct:Ct)(A:bn)(env:Env)(D:au)(p:Nat)(b:Jo)(t:ie e7):Prop:=
 ∀F,F.A=A->F.env=env->gH P ct F->∀G ρ σ s K,RF F ct.aR G ρ σ s->ρ[p]?=af D->b σ K->WP P F.A t (λ aa s'=>PT F ct.aR G ρ K s') s
def sw(elt:SE P ct)(p:Nat):Jo:=λ σ K=>elt.run σ λ v aI=>pB aI.mem p λ o=>match o with
 | .lst xs=>cJ (bB xs.length 1000000) (K (aI.put p (.lst (xs++[v]))))
 |_=>False
theorem rR{elt:SE P ct}(c:elt.b_=true){A:bn}{env:Env}{D:au}{p:Nat}:Piece P ct A env D p (sw elt p) (X.wc elt.bA env (.ref D)):=λ F hA he O G ρ σ s K R hp h=>by
 subst hA he
 unfold X.wc
 refine X.cL (X.mono (elt.ok c F G ρ σ s _ O R h) λ v s₁ z=>z.u λ dU c6 a aI fG fb dQ va bH=>bH.u λ ao e bH=>(dQ.rm.obj _ _ _ (fb.get hp) ((eI ..).symm.trans e)).elim λ ob q=>?_)
 rcases ao with xs|_|_|_|_|_|_|_
 case lst=>
  exact bH.u λ hz bH=>q.2.elim λ vs w=>X.cL (X.any (Jl (w.1.plain q.1) (λ h' L' sb=>(iX.of L').elim λ o' y=>
    X.ret ⟨dU,c6,_,fG,fb,dQ.rj (vR:= .lst (xs++[a])) (s':={s₁ with heap:=h'}) (fb.get hp) y.1 ⟨vs.push v,y.2,Jb.symm▸w.2.append (.cons va .nil)⟩ (λ b o n e=>sb.extBut b o n e) ⟨rfl,rfl,rfl⟩,bH⟩)
   (aF (aT (bf.symm.trans w.2.length)) (aF (aP hz) (dX.symm▸(by decide:1000000<=16777216))))))
 all_goals exact bH.elim
inductive CpI{P:cC}{ct:Ct}(t:TG P ct)(b:Jo)(p:Nat)(D:au)(F:Fd)(G₀:BM)(gE:ae au)(K:St->Prop)(I:au)(n:Nat)(s:ar):Prop
 |mk (G:BM) (ρ:ae au) (σ:St) (ik:IK) (g:dC G₀ G) (x:Ext gE ρ) (R:RF F ct.aR G ρ σ s) (hp:ρ[p]?=af D) (L:Loose F G ρ s I) (i:HW G ρ s.heap I ik) (nm:ph ik=true\/t.lp=true) (h:k7 t.set b n ik σ K)
theorem yy{t:TG P ct}{b:Jo}{elt:aB}{gens:ae i5}{scope:qF}{pos ip:c7}{depth:Nat}{D I:au}{p:Nat}{F:Fd}{pc:ie e7}
  (ht:mT (.ListComp elt gens scope pos) depth (.ref I) (.ref D) F.env=(di ip>>=λ aa=>gG (.ref I)>>=λ r=>match r with
   |none=>pure (.done .next)
   |some v=>du t.bA (.ref I) v>>=λ aa=>assign t.bA F.env v>>=λ aa=>(pc>>=λ aa=>qH (.compLoop (.ListComp elt gens scope pos) depth (.ref I) (.ref D) F.env))))
  (tc:t.b_=true) (pk:Piece P ct F.A F.env D p b pc) (O:gH P ct F) {G₀:BM} {gE:ae au} {K:St->Prop} (n:Nat) (s:ar) (q:CpI t b p D F G₀ gE K I n s):
  dO P.j (aE P.prog P.w) F.A (.compLoop (.ListComp elt gens scope pos) depth (.ref I) (.ref D) F.env) (λ r s'=>match r with | .ok _=>PT F ct.aR G₀ gE K s' | .error _=>False) s:=by
 refine X.compLoop ip ht (CpI t b p D F G₀ gE K I) (λ n s q=>?_) n q
 cases q with|mk G ρ σ ik g x R hp L i nm h=>
 cases n with
 |zero=>exact h.elim
 |succ n=>
  refine X.any (cZ (wG O R L i h) (λ r s₁ z=>?_) λ aa aa z=>z)
  cases r with
  |none=>exact⟨G,ρ,σ,g,x,z.1,z.2⟩
  |some u=>exact aD z λ v z=>z.elim λ EG z=>X.any (t.go _ _ I u _ (L9 nm z.l) (X.any (cZ (t.ok tc (F.now G ρ s₁) G ρ σ _ v u _ (O.now z.R) z.R.now z.vr z.k) (λ aa bp y=>y.elim λ aI y=>
    X.cL (X.mono (pk (F.now G ρ s₁) rfl rfl (O.now z.R) G ρ aI bp _ y.1 hp y.2) λ aa fS w=>w.u λ rJ kZ dz ku kJ lu fE=>have y:=z.R.over z.L lu
     X.ret ⟨rfl,n,jm n,rJ,kZ,dz,EG,g.trans ku,x.trans kJ,y.1,kJ.get hp,y.2.1,z.i.up ku kJ y.2.2,z.e▸nm,fE⟩)) λ aa aa z=>z)))
theorem y8{α β γ:Type}(m:ie α)(f:α->ie β)(g:β->ie γ):m>>=f>>=g=m>>=λ a=>f a>>=g:=by
 simp only[iW,jT]; rfl
theorem bc{α β:Type}{m:ie α}{f g:α->ie β}(h:∀a,f a=g a):m>>=f=m>>=g:=by rw[funext h]
theorem QV{t i c elt:aB}{scope:qF}{pos:c7}{it acc:am}{env:Env}:mT (.ListComp elt [⟨t,i,[c],0⟩] scope pos) 0 it acc env=(di i.pos>>=λ aa=>gG it>>=λ r=>match r with
   |none=>pure (.done .next)
   |some v=>du t it v>>=λ aa=>assign t env v>>=λ aa=>((kN c env (eval c env)>>=λ ok=>if ok=true then X.wc elt env acc else pure ())>>=λ aa=>qH (.compLoop (.ListComp elt [⟨t,i,[c],0⟩] scope pos) 0 it acc env))):=by
 rw[X.Vm]
 refine bc λ aa=>bc λ r=>?_
 cases r with
 |none=>rfl
 |some v=>
  refine bc λ aa=>bc λ aa=>?_
  rw[xk]
  simp only[if_true]
  simp only[y8]
  refine bc λ b=>?_
  cases b<;>rfl
theorem Ng{t i t' i' elt:aB}{cs:ae aB}{scope:qF}{pos:c7}{it acc:am}{env:Env}:mT (.ListComp elt [⟨t,i,[],0⟩,⟨t',i',cs,0⟩] scope pos) 0 it acc env=(di i.pos>>=λ aa=>gG it>>=λ r=>match r with
   |none=>pure (.done .next)
   |some v=>du t it v>>=λ aa=>assign t env v>>=λ aa=>((do
     let x ← eval i' env
     di i'.pos
     let x ← d_ i' env x
     let _ ← runOwn (.compStart (.ListComp elt [⟨t,i,[],0⟩,⟨t',i',cs,0⟩] scope pos) 1 (← holding [x] (iz x)) acc env) env
     pure ())>>=λ aa=>qH (.compLoop (.ListComp elt [⟨t,i,[],0⟩,⟨t',i',cs,0⟩] scope pos) 0 it acc env))):=by
 rw[X.QW]
 refine bc λ aa=>bc λ r=>?_
 cases r with
 |none=>rfl
 |some v=>
  refine bc λ aa=>bc λ aa=>?_
  simp only[y8]
  rfl
theorem Lk{c:ST P ct}{elt:SE P ct}(cc:c.b_=true)(ce:elt.b_=true){A:bn}{env:Env}{D:au}{p:Nat}:
  Piece P ct A env D p (λ σ K=>c.run σ λ b aI=>aY b (sw elt p aI K) (K aI)) (kN c.bA env (eval c.bA env)>>=λ ok=>if ok=true then X.wc elt.bA env (.ref D) else pure ()):=λ F hA he O G ρ σ s K R hp h=>by
 subst hA he
 exact X.cL (X.mono (c.ok cc F G ρ σ s _ O R h) λ b s₁ z=>z.u λ dU c6 aI fG fb dQ bH=>match b,bH with
  |true,bH=>X.mono (rR ce F rfl rfl O dU c6 aI s₁ K dQ (fb.get hp) bH) λ aa aa z=>PT.up fG fb z
  |false,bH=>X.ret ⟨dU,c6,aI,fG,fb,dQ,bH⟩)
theorem Ll{t t':TG P ct}{i:aB}{i' elt:SE P ct}{scope:qF}{pos:c7}(tc:t'.b_=true)(ci:i'.b_=true)(ce:elt.b_=true)(hs:∀env x,d_ i'.bA env x=pure x){A:bn}{env:Env}{D:au}{p:Nat}:
  Piece P ct A env D p (λ σ K=>i'.run σ λ v aI=>Iy v aI.mem (Jz t'.lp v λ ik=>∃N,k7 t'.set (sw elt p) N ik aI K)) (do
     let x ← eval i'.bA env
     di i'.bA.pos
     let x ← d_ i'.bA env x
     let _ ← runOwn (.compStart (.ListComp elt.bA [⟨t.bA,i,[],0⟩,⟨t'.bA,i'.bA,[],0⟩] scope pos) 1 (← holding [x] (iz x)) (.ref D) env) env
     pure ()):=λ F hA he O G ρ σ s K R hp h=>by
 subst hA he
 refine X.cL (X.mono (i'.ok ci F G ρ σ s _ O R h) λ u s₁ z=>z.u λ dU c6 v aI fG fb dQ va bH=>X.at_ (X.cL (X.WX (hs _ _) (X.cL (X.holds (X.any (cZ (rW O dQ va bH) (λ w bp z=>z.elim λ I z=>z.elim λ ik z=>z.1▸z.2.h.elim λ N cU=>?_) λ aa aa z=>z)))))))
 have z:=z.2
 have hl:dO P.j (aE P.prog P.w) F.A (.compLoop (.ListComp elt.bA [⟨t.bA,i,[],0⟩,⟨t'.bA,i'.bA,[],0⟩] scope pos) 1 (.ref I) (.ref D) F.env) (λ r s'=>match r with | .ok _=>PT F ct.aR G ρ K s' | .error _=>False) bp:=yy X.Vn tc (rR ce) O N bp ⟨dU,c6,aI,ik,fG,fb,z.R,fb.get hp,z.L,z.i,z.n,cU⟩
 unfold runOwn
 exact X.cL (X.raises (X.runs rfl (X.compStart rfl (X.eh hl λ r s' z=>match r,z with
   | .ok f,z=>X.ret z
   | .error e,z=>z) (X.any (wA z.i (X.eh hl λ r s' z=>match r,z with
   | .ok f,z=>X.ret z
   | .error e,z=>z))))))
end
section
variable{P:cC}{ct:Ct}
structure CL(P:cC)(ct:Ct) where
 elt:aB
 mK:TG P ct
 ifs:ae aB
 rest:ae i5
 body:Nat->Jo
 b_:aC
 ok:b_=true->∀(A:bn) (env:Env) (D:au) (p:Nat) (i:aB) (scope:qF) (pos:c7) (it:am),∃pc,Piece P ct A env D p (body p) pc/\∃ip,mT (.ListComp elt (⟨mK.bA,i,ifs,0⟩::rest) scope pos) 0 it (.ref D) env=(di ip>>=λ aa=>gG it>>=λ r=>match r with
   |none=>pure (.done .next)
   |some v=>du mK.bA it v>>=λ aa=>assign mK.bA env v>>=λ aa=>(pc>>=λ aa=>qH (.compLoop (.ListComp elt (⟨mK.bA,i,ifs,0⟩::rest) scope pos) 0 it (.ref D) env)))
 ZJ:Nat->AS->aq (ae (e7×AS)):=λ aa aa=>none
 Ka:lT P->∀p,Ab (ZJ p) (λ σ K=>body p σ λ bZ=>K () bZ) (λ(_:e7) (_:e7)=>True):=by nofun
def Et(elt:SE P ct)(p:Nat)(s:AS):aq (ae (e7×AS)):=bO (elt.ab s) λ t s=>ob (gR s.mem p) λ o=>ob (oLst o) λ vs=>nB (bB vs.1.length 1000) (af [((),s.put p (.lst (vs.1++[t])))])
noncomputable abbrev UT:e7->e7->Prop:=λ aa aa=>True
theorem yC{elt:SE P ct}(fo:lT P){p:Nat}:Ab (Et elt p) (λ σ K=>sw elt p σ λ bZ=>K () bZ) UT:=λ s outs h σ gs=>(elt.cN fo).bind (C:=λ v aI K=>pB aI.mem p λ o=>match o with
  | .lst xs=>cJ (bB xs.length 1000000) (K () (aI.put p (.lst (xs++[v]))))
  |_=>False) h gs λ t s l h v σ gv gs=>ob.u h λ o ho h=>ob.u h λ vs aa h=>nB.u h λ hl h=>(gs.mem.at ho).elim λ o' m1=>aD (show GO σ.mem (.lst vs.1) o' from vs.2▸m1.2) λ us z=>
   D2.one (a:=()) (σ:=σ.put p (.lst (us++[v]))) h trivial ⟨gs.loc,gs.mem.set (o:= .lst vs.1) (vs.2▸ho) rfl ⟨_,rfl,z.2.snoc gv⟩ (.inl rfl)⟩ λ K k=>dF m1.1 (z.1.symm▸cJ.i (cY (aF (aT z.2.len) (aF (aP hl) (by decide)))) k)
def ZM(t:TG P ct)(elt:SE P ct):CL P ct where
 elt:=elt.bA
 mK:=t
 ifs:=[]
 rest:=[]
 body:=λ p=>sw elt p
 b_:=elt.b_
 ok:=λ c A env D p i scope pos it=>⟨_,rR c,_,X.Zh⟩
 ZJ:=λ p s=>Et elt p s
 Ka:=λ fo p=>yC fo
noncomputable def Ta(t:TG P ct)(elt:SE P ct)(c:ST P ct):CL P ct where
 elt:=elt.bA
 mK:=t
 ifs:=[c.bA]
 rest:=[]
 body:=λ p σ K=>c.run σ λ b aI=>aY b (sw elt p aI K) (K aI)
 b_:=c.b_&&elt.b_
 ok:=λ h A env D p i scope pos it=>⟨_,Lk (aG h).1 (aG h).2,_,QV⟩
noncomputable def Ge{set:AV->St->(St->Prop)->Prop}(st:(t:TV)->(s:AS)->aq {s':AS // yf set t s s'})(b:AS->aq (ae (e7×AS))):Nat->DY->AS->aq (ae (e7×AS))
 |0,_,_=>none
 |n+1,ik,s=>ob (JX ik s.mem) λ r=>match r with
  |none=>af [((),s)]
  |some x=>ob (st x.1 s) λ s'=>bO (b s'.1) λ aa s=>Ge st b n x.2 s
theorem v8{set:AV->St->(St->Prop)->Prop}{st:(t:TV)->(s:AS)->aq {s':AS // yf set t s s'}}{ba:AS->aq (ae (e7×AS))}{b:Jo}(hb:Ab ba (λ σ K=>b σ λ bZ=>K () bZ) (λ(_:e7) (_:e7)=>True)):
  ∀(n:Nat) (ik:DY) (x:IK),V1 ik x->Ab (Ge st ba n ik) (λ σ K=>k7 set b n x σ λ bZ=>K () bZ) (λ(_:e7) (_:e7)=>True)
 |0,_,_,_=>λ aa aa h=>nomatch h
 |n+1,ik,x,g=>λ s outs h σ gs=>ob.u h λ r e h=>(FY e g gs.mem).elim λ r' z=>match r,z.1,h with
  |none,gr,h=>D2.one (a:=()) h trivial gs λ K w=>z.2 _ ((show r'=none from gr)▸w)
  |some y,gr,h=>aD gr λ q gq=>ob.u h λ s' aa h=>(s'.2 q.1 σ gq.2.1 gs).elim λ bZ k'=>
   (hb.bind (C:=λ aa aU K=>k7 set b n q.2 aU λ bZ=>K () bZ) h k'.1 λ f bp l₂ cU a aU ga nZ=>v8 hb n y.2 q.2 gq.2.2 bp l₂ cU aU nZ).eq λ K w=>z.2 _ (gq.1.symm▸k'.2 _ w)
def cl2(t:TG P ct)(elt:SE P ct)(t':TG P ct)(i':SE P ct):CL P ct where
 elt:=elt.bA
 mK:=t
 ifs:=[]
 rest:=[⟨t'.bA,i'.bA,[],0⟩]
 body:=λ p σ K=>i'.run σ λ v aI=>Iy v aI.mem (Jz t'.lp v λ ik=>∃N,k7 t'.set (sw elt p) N ik aI K)
 ZJ:=λ p s=>bO (i'.ab s) λ v s=>ob (aIt t'.lp v s) λ ik=>Ge t'.st (Et elt p) 12 ik.1 s
 Ka:=λ fo p s outs h σ gs=>(i'.cN fo).bind (C:=λ v aI K=>Iy v aI.mem (Jz t'.lp v λ ik=>∃N,k7 t'.set (sw elt p) N ik aI λ bZ=>K () bZ)) h gs λ v s l h a σ ga gs=>ob.u h λ ik aa h=>(ik.2 a σ ga gs).elim λ x k=>
  (v8 (yC fo) 12 ik.1 x k.1 _ _ h _ gs).eq λ K w=>k.2 _ ⟨12,w⟩
 b_:=vg 3 i'.bA&&(t'.b_&&(i'.b_&&elt.b_))
 ok:=λ h A env D p i scope pos it=>have d:=(w8 (aG h).1).1; have h:=(aG h).2; ⟨_,Ll (aG h).1 (aG (aG h).2).1 (aG (aG h).2).2 d,_,Ng⟩
def Em(B:xq)(e:SE P ct)(c:CL P (B.ct ct))(σ:St)(K:Nat->St->Prop):Prop:=
 e.run σ λ v aI=>Iy v aI.mem (Jz c.mK.lp v λ ik=>∃N,k7 c.mK.set (c.body aI.mem.length) N ik ⟨sD aI.loc B.src,aI.mem++[.lst []]⟩ λ aU=>K aI.mem.length ⟨aI.loc,aU.mem⟩)
theorem wa{B:xq}(hb:B.ok ct=true){e:SE P ct}(ce:e.b_=true){c:CL P (B.ct ct)}(cc:c.b_=true)(ctg:c.mK.b_=true)(hs:∀env x,d_ e.bA env x=pure x)
  {F:Fd} {G:BM} {ρ:ae au} {σ:St} {s:ar} {K:Nat->St->Prop} {pos:c7} {use:aq (am->ie e7)} {Q:am->ar->Prop} (O:gH P ct F) (R:RF F ct.aR G ρ σ s) (h:Em B e c σ K)
  (aa_:∀G' ρ' bZ s' D C m p,dC G G'->Ext ρ ρ'->RF F ct.aR G' ρ' bZ s'->ρ'[p]?=af D->K p bZ->Loose F G' ρ' s' C->s'.heap.Ns C m->X.zG P.j (aE P.prog P.w) F.A use Q (.ref D) C s'):
  WP P F.A (rC (.ListComp c.elt (⟨c.mK.bA,e.bA,c.ifs,0⟩::c.rest) B.scope pos) B.scope F.env (firstIterPos (⟨c.mK.bA,e.bA,c.ifs,0⟩::c.rest) pos) (newList []) (firstAsync (⟨c.mK.bA,e.bA,c.ifs,0⟩::c.rest)) (firstIter (⟨c.mK.bA,e.bA,c.ifs,0⟩::c.rest) F.env) use) Q s:=by
 obtain⟨b1,b2,b3,b4,b5,b6⟩:=yn hb
 refine X.comprehension (cl:=kt F.env B.scope.names []) (g:=⟨c.mK.bA,e.bA,c.ifs,0⟩) (gs:=c.rest) rfl (hs _) (v7 λ x hx hf=>?_) b1 b5 ?_
 ·obtain⟨d,hd⟩:=O.cells x.1 (b6 x hx hf); exact⟨d,hd⟩
 refine X.mono (e.ok ce F G ρ σ s _ O R h) λ u s₁ z=>z.u λ dU c6 v aI fG fb dQ va bH=>X.any (cZ (rW O dQ va bH) (λ w bp z=>z.elim λ I z=>z.elim λ ik z=>z.1▸z.2.h.elim λ N cU=>?_) λ aa aa z=>z)
 obtain⟨hI,k₂,acX,gJ,Lo,it,nm,_⟩:=z.2
 refine X.any (cO ?_ (by show(0:Nat)<=f6; omega))
 have lu:=gJ.new (ao:= .lst []) (s':={bp with heap:=bp.heap.push {cls:= .type "list",data:= .seq ([]:ae am).toArray}}) gJ.K0 (aN _ rfl) ⟨#[],⟨_,rfl⟩,bI.nil⟩ (λ b o e=>aA _ e) ⟨rfl,rfl,rfl⟩
 have hD:(c6++[bp.heap.objs.size])[aI.mem.length]?=af bp.heap.objs.size:=by rw[← gJ.rm.len]; simp
 obtain⟨oI,hoI⟩:=Lo.al
 have hID:I≠bp.heap.objs.size:=dN (b8 hoI)
 refine X.any (wpAny_newFunctionEnv b4 (λ y hy=>by simp at hy) (λ nH RQ RS=>?_) b1)
 have hC:(bp.heap.push {cls:= .type "list",data:= .seq ([]:ae am).toArray}:Heap).get? (bp.heap.push {cls:= .type "list",data:= .seq ([]:ae am).toArray}:Heap).objs.size=none:=lu.K0
 have XJ:∀b o,(bp.heap.push {cls:= .type "list",data:= .seq ([]:ae am).toArray}:Heap).get? b=af o->nH.get? b=af o:=λ b o e=>
  RS.extBut b o (dN (b8 e)) (aA _ e)
 have kk:∀b o,bp.heap.get? b=af o->nH.get? b=af o:=λ b o e=>XJ b o (aA _ e)
 have WO:s₁.heap.get? bp.heap.objs.size=none:=by
  cases e:s₁.heap.get? bp.heap.objs.size with
  |none=>rfl
  |some o=>exact bt (b8 (k₂ _ _ e)) (fj _)
 obtain⟨O',pP⟩:=H9 hb (s'':={bp with heap:=nH,toks:=bp.toks+([]:ae (bM×am)).length}) O dQ (Ext.snoc _ _) lu (λ b o e=>aA _ (k₂ b o e)) acX (λ a ha=>by
  rcases fJ.mp ha with ha|ha
  ·exact .inl ha
  ·simp at ha; subst ha; exact .inr WO) hC RQ XJ ⟨rfl,rfl,rfl⟩
 generalize hCe:(bp.heap.push {cls:= .type "list",data:= .seq ([]:ae am).toArray}:Heap).objs.size=C at *
 have hCI:I≠C:=λ e=>by
  have:=aA {cls:= .type "list",data:= .seq ([]:ae am).toArray} hoI
  rw[e,hC] at this; cases this
 have V7:Loose (pg F B C s₁ c6 dU) dU (c6++[bp.heap.objs.size]) {bp with heap:=nH,toks:=bp.toks+([]:ae (bM×am)).length} I:=by
  refine⟨λ hm=>?_,Lo.G,hI,hCI,λ y hc=>Lo.c y (rP _ [] (λ aa aa q=>by cases q) y I hc),⟨oI,kk _ _ hoI⟩⟩
  rcases fJ.mp hm with hm|hm
  ·exact Lo.ρ hm
  ·simp at hm; exact hID hm
 have RX:HW dU (c6++[bp.heap.objs.size]) nH I ik:=it.up (dC.refl _) (Ext.snoc _ _) λ o e=>kk _ _ e
 obtain⟨pc,pk,ip,ht⟩:=c.ok cc F.A (pg F B C s₁ c6 dU).env bp.heap.objs.size aI.mem.length e.bA B.scope pos (.ref I)
 have fin:=yy (F:=pg F B C s₁ c6 dU) (pos:=pos) (G₀:=dU) (gE:=c6++[bp.heap.objs.size]) ht ctg pk O' N _ ⟨dU,c6++[bp.heap.objs.size],_,ik,dC.refl _,Ext.refl _,pP,hD,V7,RX,nm,cU⟩
 have last:∀s',PT (pg F B C s₁ c6 dU) (B.ct ct).aR dU (c6++[bp.heap.objs.size]) (λ aU=>K aI.mem.length ⟨aI.loc,aU.mem⟩) s'->X.zG P.j (aE P.prog P.w) F.A use Q (.ref bp.heap.objs.size) C s':=λ s' z=>by
   obtain⟨G',ρ',bZ,g',x',R',hk⟩:=z
   have ZS:s₁.heap.get? C=none:=by
    cases e:s₁.heap.get? C with
    |none=>rfl
    |some o=>have:=aA {cls:= .type "list",data:= .seq ([]:ae am).toArray} (k₂ _ _ e); rw[hC] at this; cases this
   have aap:=Kg O dQ ZS R' (λ b o aa e=>e) ⟨rfl,rfl,rfl⟩
   obtain⟨m,hm⟩:=R'.ns
   obtain⟨om,esm,epm,hom,_⟩:=id hm
   refine aa_ G' ρ' _ s' _ C m _ (fG.trans g') (fb.trans ((Ext.snoc _ _).trans x')) aap (x'.get hD) hk ⟨R'.A3,R'.lG,dQ.dead ZS,λ e=>?_,λ y e=>?_,⟨om,hom⟩⟩ hm
   ·obtain⟨mL,oL,esL,epL,Jy,_⟩:=dQ.ns; rw[← e,ZS] at Jy; cases Jy
   ·obtain⟨_,_,⟨vv,oo,hoo,_⟩,_⟩:=dQ.cell y C e; rw[ZS] at hoo; cases hoo
 refine X.compStart rfl (X.eh fin λ r s' z=>?_) (X.any (wA (F:=pg F B C s₁ c6 dU) RX (X.eh fin λ r s' z=>?_)))
 ·cases r with
  |ok f=>exact last s' z
  |error e=>exact z
 ·cases r with
  |ok f=>exact last s' z
  |error e=>exact z
noncomputable def Ay(l:ae TV):ae (aq Nat)->aq (ae TV)
 |none::r=>ob (Ay l r) λ x=>af (.ex .undef::x)
 |some i::r=>ob (Q0 l i) λ v=>ob (Ay l r) λ x=>af (v::x)
 |[]=>af []
theorem tT{l:ae TV}{us:ae AV}(g:dD l us):∀{src:ae (aq Nat)} {x:ae TV},Ay l src=af x->dD x (sD us src)
 |[],_,h=>ak h▸rfl
 |none::r,_,h=>ob.u h λ x e h=>ak h▸ .cons rfl (tT g e)
 |some i::r,_,h=>ob.u h λ v e1 h=>ob.u h λ x e h=>(tV g e1).elim λ u z=>ak h▸ .cons (z.2.1.symm▸z.2.2) (tT g e)
def Gh(B:xq){P:cC}{ct:Ct}(c:CL P (B.ct ct))(v:TV)(s:AS):aq (ae (TV×AS)):=ob (aIt c.mK.lp v s) λ ik=>ob (Ay s.loc B.src) λ l=>bO (Ge c.mK.st (c.ZJ s.mem.length) 12 ik.1 ⟨l,s.mem++[.lst []]⟩) λ aa bp=>af [(.ex (.own s.mem.length),⟨s.loc,bp.mem⟩)]
theorem BO{B:xq}{c:CL P (B.ct ct)}(fo:lT P){v:TV}{s:AS}{outs:ae (TV×AS)}{a:AV}{σ:St}(h:Gh B c v s=af outs)(ga:GV v a)(gs:GS s σ):
  D2 (λ K=>Iy a σ.mem (Jz c.mK.lp a λ ik=>∃N,k7 c.mK.set (c.body σ.mem.length) N ik ⟨sD σ.loc B.src,σ.mem++[.lst []]⟩ λ aU=>K (.own σ.mem.length) ⟨σ.loc,aU.mem⟩)) GV outs:=by
 refine ob.u h λ ik aa h=>ob.u h λ l hl h=>(ik.2 a σ ga gs).elim λ x k=>ob.u h λ lo e h=>?_
 have hn:s.mem.length=σ.mem.length:=gs.mem.len
 have g1:GS ⟨l,s.mem++[.lst []]⟩ ⟨sD σ.loc B.src,σ.mem++[.lst []]⟩:=⟨tT gs.loc hl,gs.mem.app (o:= .lst []) ⟨[],rfl,rfl⟩ rfl⟩
 rw[hn] at e
 exact D2.eq (D2.bind (C:=λ aa aU K=>K (.own σ.mem.length) ⟨σ.loc,aU.mem⟩) (v8 (c.Ka fo σ.mem.length) 12 ik.1 x k.1 _ _ e _ g1) h λ aa bp l' h' aa aU aa nZ=>D2.one (a:=AV.own σ.mem.length) (σ:=⟨σ.loc,aU.mem⟩) h' (ah AV.own hn.symm) ⟨gs.loc,nZ.mem⟩ λ K w=>w) λ K w=>k.2 _ ⟨12,w⟩
def Nw(B:xq)(e:SE P ct)(c:CL P (B.ct ct))(pos:c7):SE P ct where
 bA:= .ListComp c.elt (⟨c.mK.bA,e.bA,c.ifs,0⟩::c.rest) B.scope pos
 run:=λ σ K=>Em B e c σ λ p bZ=>K (.own p) bZ
 b_:=vg 3 e.bA&&(B.ok ct&&(e.b_&&(c.b_&&c.mK.b_)))
 star:=λ aa aa=>rfl
 ok:=λ h F G ρ σ s Kv O R hr=>by
  have q0:=aG h; have q1:=aG q0.2; have q2:=aG q1.2; have q3:=aG q2.2
  rw[eval_ListComp]
  exact wa q1.1 q2.1 q3.1 q3.2 (w8 q0.1).1 O R hr λ G' ρ' bZ s' D C m p g x R' hp hk Lo hm=>⟨m,hm,λ h' sb=>PE.up g x (PE.here (R'.side (s':={s' with heap:=h'}) (λ a o n e=>sb.extBut a o n e) Lo.ρ Lo.G Lo.h Lo.L Lo.c ⟨rfl,rfl,rfl⟩) (VR.IP hp) hk)⟩
 ab:=JZ e.ab (Gh B c)
 cN:=λ fo=>nA fo λ v s outs a σ h ga gs=>BO fo h ga gs
noncomputable def YR(sc:qF)(x:bM)(p' pos:c7):aC:=p'.line==pos.line&&!(sc.names.any λ n=>n.1==x&&(n.2== .local||n.2== .cell))
theorem Qv{sc:qF}{x:bM}{p' pos:c7}{a:aB}{gs:ae i5}{l:Nat}{env:Env}(h:YR sc x p' pos=true)(hk:env.scope.kind= .function)(hl:env.kindOf x=af .local):oy (.ListComp a gs sc pos) (af (.Name x p')) l env=pure true:=by
 unfold oy
 show pure (env.blockKind== .function&&env.kindOf x==af .local&&p'.line==pos.line&&!(sc.names.any λ n=>n.1==x&&(n.2== .local||n.2== .cell)))=_
 rw[show env.blockKind= .function by unfold Env.blockKind; rw[hk]; rfl,hl,(aG h).1,(aG h).2]
 rfl
def ML(i:Nat)(x:bM)(p':c7)(B:xq)(e:SE P ct)(c:CL P (B.ct ct))(pos p:c7):SX P ct where
 bA:= .Assign [.Name x p'] (.ListComp c.elt (⟨c.mK.bA,e.bA,c.ifs,0⟩::c.rest) B.scope pos) p
 run:=λ σ K=>Em B e c σ λ q bZ=>K .d7 (bZ.set i (.own q))
 b_:=YR B.scope x p' pos&&(vg 3 e.bA&&((oZ ct i x&&(ct.names.lookup x==af .local))&&(B.ok ct&&(e.b_&&(c.b_&&c.mK.b_)))))
 ok:=λ h F G ρ σ s Kv O R hr=>by
  obtain⟨hw,h⟩:=aG h
  obtain⟨hz,h⟩:=aG h
  have hs:=(w8 hz).1
  obtain⟨h0,h⟩:=aG h
  obtain⟨h1,h⟩:=aG h
  obtain⟨h2,h⟩:=aG h
  obtain⟨h3,h4⟩:=aG h
  have hl:F.env.kindOf x=af .local:=by unfold Env.kindOf; rw[O.names]; exact be.mp (aG h0).2
  rw[exec_Assign_Name_used _ _ _ _ (Qv hw O.kind hl)]
  refine X.at_ (X.cL ?_)
  unfold evalThenUse
  refine X.cL ?_
  refine wa (use:=af (assign (.Name x p') F.env)) h1 h2 h3 h4 hs O R hr λ G' ρ' bZ s' D C m q g x' R' hp hk Lo hm=>?_
  show cK _ _ _ (assign (.Name x p') F.env (.ref D)) _ s'
  refine X.any (xD (qE (F:=F.now G' ρ' s') (O.now R') R'.now (aG h0).1 (VR.IP hp) λ s'' AW=>?_))
  obtain⟨om,esm,epm,hom,rest⟩:=hm
  have hC:=AW.keep C om Lo.ρ ⟨Lo.L,λ aa y aa=>Lo.c y⟩ hom
  refine⟨m,⟨om,esm,epm,hC,rest⟩,λ h' sb=>?_⟩
  have lu:=R'.then AW
  exact X.ret (X.ret (PF.d7 g x' (lu.side (s':={s'' with heap:=h'}) (λ a o n e=>sb.extBut a o n e) Lo.ρ Lo.G Lo.h Lo.L Lo.c ⟨rfl,rfl,rfl⟩) hk))
 ab:=JZ e.ab λ v s=>bO (Gh B c v s) λ t s=>af [(.d7,s.set i t)]
 cN:=λ fo=>nA (g:=GF) (f:=λ v s=>bO (Gh B c v s) λ t s=>af [(.d7,s.set i t)]) (C:=λ a σ (K:Fl->St->Prop)=>Iy a σ.mem (Jz c.mK.lp a λ ik=>∃N,k7 c.mK.set (c.body σ.mem.length) N ik ⟨sD σ.loc B.src,σ.mem++[.lst []]⟩ λ aU=>K .d7 (St.set ⟨σ.loc,aU.mem⟩ i (.own σ.mem.length)))) fo λ v s outs a σ h ga gs=>ob.u h λ l e h=>
  D2.bind (C:=λ b bZ K=>K Fl.d7 (bZ.set i b)) (BO fo e ga gs) h λ t s l h b bZ gb p6=>D2.one (g:=GF) (b:=AF.d7) (a:=Fl.d7) (σ:=bZ.set i b) h rfl ⟨p6.loc.set i gb,p6.mem⟩ λ K z=>z
end
section
variable{P:cC}{ct:Ct}
def Oz(P:cC)(ct:Ct)(x:bM)(f:am):aC:=B7 ct x&&(P.blt.contains x&&(bootBuiltins x==af f))
theorem z_{F:Fd}{G:BM}{ρ:ae au}{σ:St}{s:ar}{x:bM}{f:am}{q:c7}{Q:am->ar->Prop}(O:gH P ct F)(R:RF F ct.aR G ρ σ s)(c:Oz P ct x f=true)(h:Q f s):aH (aE P.prog P.w) F.A (eval (.Name x q) F.env) Q dq s:=
 have c1:=B8 (aG c).1
 have c2:=aG (aG c).2
 have b:=P.BF x c2.1
 R.AA O λ B p l mg mb h1 h2 h3=>Name_function_global O.kind ((ah (·.lookup x) O.names).trans c1.1) (loadGlobal_builtin (O.glob.symm▸h2.g.keeps h3) (mg_none_of h1 h2.g b.1) (O.blt.symm▸h2.b.keeps h3) ((h2.builtins x b.2).trans (be.mp c2.2)) h) c1.2
theorem oO{M:ir}{f:am}(hf:∀a,f≠ .ref a)(h:Heap)(_:True):∃k,(k=AN\/k=xn\/k=s8)/\Looks M h (keeperOf f) k:=
 ⟨.machine, .inr (.inl rfl),λ A Q E s k q=>by
  cases f
  case ref=>exact bt rfl (hf _)
  all_goals exact aw q⟩
noncomputable abbrev xK:=ae AV->St->(AV->St->Prop)->Prop
structure Bf(P:cC)(ct:Ct) where
 nm:bM
 f:am
 lQ:xK
 jj:aC
 hf:∀a,f≠ .ref a
 snd:∀F G ρ σ s Kv dr vs,(jj=true->P.j=true)->gH P ct F->RF F ct.aR G ρ σ s->bI G ρ dr vs->lQ dr σ Kv->WP P F.A (call f vs []) (PE F ct.aR G ρ Kv) s
 lf:ae TV->AS->aq (ae (TV×AS)):=λ aa aa=>none
 lk:∀ts s outs vs σ,lf ts s=af outs->dD ts vs->GS s σ->D2 (lQ vs σ) GV outs:=by nofun
def xB(B:Bf P ct)(q:c7)(as:SL P ct)(p:c7):SE P ct where
 bA:= .Call (.Name B.nm q) as.bA [] p
 run:=λ σ K=>as.run σ λ vs aI=>B.lQ vs aI K
 ab:=λ s=>bO (as.ab s) B.lf
 cN:=λ fo s outs h σ gs=>(as.cN fo).bind h gs λ ts s l h vs σ gv gs=>B.lk ts s l vs σ h gv gs
 b_:=(!B.jj||P.j)&&(Oz P ct B.nm B.f&&as.b_)
 star:=λ aa aa=>rfl
 ok:=λ c F G ρ σ s Kv O R h=>have c1:=aG (aG c).2
  X.pT (X.any (z_ O R c1.1 (X.t_ (Pm:=λ aa=>True) (as.plain _ _) (oO B.hf) (X.mono (as.ok c1.2 F G ρ σ s _ _ O R h) λ vs s₁ z=>z.u λ dU c6 dr aI fG fb dQ va bH=>
   ⟨trivial,X.mono (B.snd F dU c6 aI s₁ Kv dr vs (λ e=>(ah (λ b=>(!b||P.j)=true) e).mp (aG c).1) O dQ va bH) λ aa aa=>PE.up fG fb⟩))))
def Ux(vs:ae AV)(K:Prop):Prop:=match vs with
 |[]=>K
 |_=>False
def G8(vs:ae AV)(K:AV->Prop):Prop:=match vs with
 |[v]=>K v
 |_=>False
def Yn(vs:ae AV)(K:AV->AV->Prop):Prop:=match vs with
 |[v,w]=>K v w
 |_=>False
def Yo(vs:ae AV)(K:AV->AV->AV->Prop):Prop:=match vs with
 |[v,w,x]=>K v w x
 |_=>False
theorem Ux.u{vs:ae AV}{K:Prop}{Q:ae AV->Prop}(h:Ux vs K)(k:K->Q []):Q vs:=by
 rcases vs with _|_
 ·exact k h
 ·exact h.elim
theorem G8.u{vs:ae AV}{K:AV->Prop}{Q:ae AV->Prop}(h:G8 vs K)(k:∀v,K v->Q [v]):Q vs:=by
 rcases vs with _|⟨v,_|_⟩
 ·exact h.elim
 ·exact k v h
 ·exact h.elim
theorem Yn.u{vs:ae AV}{K:AV->AV->Prop}{Q:ae AV->Prop}(h:Yn vs K)(k:∀v w,K v w->Q [v,w]):Q vs:=by
 rcases vs with _|⟨v,_|⟨w,_|_⟩⟩
 case cons.cons.nil=>exact k v w h
 all_goals exact h.elim
theorem Yo.u{vs:ae AV}{K:AV->AV->AV->Prop}{Q:ae AV->Prop}(h:Yo vs K)(k:∀v w x,K v w x->Q [v,w,x]):Q vs:=by
 rcases vs with _|⟨v,_|⟨w,_|⟨x,_|_⟩⟩⟩
 case cons.cons.cons.nil=>exact k v w x h
 all_goals exact h.elim
section
variable{F:Fd}{G:BM}{ρ:ae au}{σ:St}{s:ar}{a b c:AV}{v:am}{vs:ae am}{dr:ae AV}{Kv:AV->St->Prop}{Q:ae am->Prop}
theorem bI.a0{K:Prop}(h:Ux dr K)(va:bI G ρ dr vs)(k:K->Q []):Q vs:=Ux.u (Q:=λ dr=>bI G ρ dr vs->Q vs) h (λ h va=>va.u0 (k h)) va
theorem bI.a1{K:AV->Prop}(h:G8 dr K)(va:bI G ρ dr vs)(k:∀a u,K a->VR G ρ a u->Q [u]):Q vs:=G8.u (Q:=λ dr=>bI G ρ dr vs->Q vs) h (λ a h va=>va.u1 λ u vu=>k a u h vu) va
theorem bI.a2{K:AV->AV->Prop}(h:Yn dr K)(va:bI G ρ dr vs)(k:∀a b u v,K a b->VR G ρ a u->VR G ρ b v->Q [u,v]):Q vs:=Yn.u (Q:=λ dr=>bI G ρ dr vs->Q vs) h (λ a b h va=>va.u2 λ u v vu vv=>k a b u v h vu vv) va
theorem bI.a3{K:AV->AV->AV->Prop}(h:Yo dr K)(va:bI G ρ dr vs)(k:∀a b c u v w,K a b c->VR G ρ a u->VR G ρ b v->VR G ρ c w->Q [u,v,w]):Q vs:=Yo.u (Q:=λ dr=>bI G ρ dr vs->Q vs) h (λ a b c h va=>va.u3 λ u v w vu vv vw=>k a b c u v w h vu vv vw) va
theorem VR.OB{bs:ae bX}{Q:am->Prop}(h:VR G ρ (.kq bs) v)(k:∀t,Q (.bytes bs.toArray t)):Q v:=aD h λ t e=>(show v=_ from e)▸k t
def CU(o:AO)(K:ae bX->Prop):Prop:=match o with
 | .ba bs=>K bs
 |_=>False
theorem CU.u{o:AO}{K:ae bX->Prop}{Q:AO->Prop}(h:CU o K)(k:∀bs,K bs->Q (.ba bs)):Q o:=by
 rcases o with _|_|_|_|_|_|bs|_
 case ba=>exact k bs h
 all_goals exact h.elim
def abM(o:AO)(K:Nat->Prop):Prop:=match o with
 | .ba b=>K b.length
 | .lst xs=>K xs.length
 | .il xs=>K xs.length
 |_=>False
def XW(a:AV)(m:ae AO)(K:Nat->Prop):Prop:=match a with
 | .kq b=>K b.length
 | .lst xs=>K xs.length
 | .row xs=>K xs.length
 | .own p=>pB m p λ o=>abM o K
 |_=>False
def MR:xK:=λ vs σ K=>G8 vs λ a=>XW a σ.mem λ n=>need (n < 4611686018427387904) (K (.int n) σ)
theorem TF{n:Nat}(h:n < 4611686018427387904):(n:Int) < 2 ^ 63:=dk (mQ.mpr h) (by decide)
theorem Px{l:au}{o:Obj}{vs:bD am}{n:Nat}(R:RF F ct.aR G ρ σ s)(ho:s.heap.get? l=af o)(hl:iX o vs)(hn:vs.toList.length=n)(h:need (n < 4611686018427387904) (Kv (.int n) σ)):
  aH (aE P.prog P.w) F.A (call (.builtin "len") [.ref l]) (PE F ct.aR G ρ Kv) dq s:=
 h.u λ hb h=>have e:vs.size=n:=bf.symm.trans hn; call_len_list ⟨o,ho,hl.is⟩ (e.symm▸TF hb) (e.symm▸PE.here (R.toks _) VR.mA h)
theorem Py(R:RF F ct.aR G ρ σ s)(va:VR G ρ a v)(h:XW a σ.mem λ n=>need (n < 4611686018427387904) (Kv (.int n) σ)):aH (aE P.prog P.w) F.A (call (.builtin "len") [v]) (PE F ct.aR G ρ Kv) dq s:=by
 rcases a with _|_|_|_|bs|p|_|_|_|_|_|xs|ns|_|_|_|_|_
 case kq=>exact need.u h λ hb h=>va.OB (Q:=λ v=>aH (aE P.prog P.w) F.A (call (.builtin "len") [v]) (PE F ct.aR G ρ Kv) dq s) λ t=>Um (ff (cS▸hb) (by decide)) (PE.here (R.toks _) (cS.symm▸VR.mA) h)
 case own=>
  exact pB.u h λ o e h=>R.own va e (Q:=λ v=>aH (aE P.prog P.w) F.A (call (.builtin "len") [v]) (PE F ct.aR G ρ Kv) dq s) λ adr ob jI h1 q=>by
   rcases o with xs|ns|_|_|_|_|bs|_
   case lst=>exact aD q λ us q=>Px R h1 q.1 q.2.length h
   case il=>exact aD q λ us q=>Px R h1 q.1 q.2.length h
   case ba=>exact need.u h λ hb h=>Ul ((show ob=nC bs from q)▸h1) (ff hb (by decide)) (PE.here (R.toks _) VR.mA h)
   all_goals exact h.elim
 case lst=>exact va.lstU (Q:=λ v=>aH (aE P.prog P.w) F.A (call (.builtin "len") [v]) (PE F ct.aR G ρ Kv) dq s) λ l o us hg hl hv=>Px R (R.rm.kg _ _ hg) hl hv.length h
 case row=>exact va.C8 (Q:=λ v=>aH (aE P.prog P.w) F.A (call (.builtin "len") [v]) (PE F ct.aR G ρ Kv) dq s) λ l o us hg hl hv=>Px R (R.rm.kg _ _ hg) hl hv.length h
 all_goals exact h.elim
end
theorem EP{n m:Nat}{k:Prop}(e:n=m)(h:bB m 1000000=true)(z:k):need (n < 4611686018427387904) k:=Te (aS (e▸aP h) (by decide)) z
abbrev aal(t:TV)(s:AS)(u:TV):Prop:=∀a σ,GV t a->GS s σ->∃v,GV u v/\∀K:AV->St->Prop,K v σ->MR [a] σ K
def acw(t:TV)(s:AS):aq {u:TV // aal t s u}:=
 oe (ob (Ve t) λ n=>bE (bB n.1 1000000) λ hn=>af ⟨.rg 0 n.1,λ a σ g gs=>aD (n.2▸g:GV (.Ju n.1) a) λ bs e=>e.1.symm▸⟨.int bs.length,⟨_,rfl,j9 _,pH.mpr e.2⟩,λ K k=>Te (aS (aF e.2 (aP hn)) (by decide)) k⟩⟩)
 (oe (ob (Vg t) λ r=>bE (bB r.1.length 1000000) λ hn=>af ⟨.ex (.int r.1.length),λ a σ g gs=>(ll g r.2).symm▸⟨_,rfl,λ K k=>EP rfl hn k⟩⟩)
 (oe (ob (nK t) λ p=>jK (gR s.mem p.1) λ o ho=>ob (oLst o) λ vs=>bE (bB vs.1.length 1000000) λ hn=>af ⟨.ex (.int vs.1.length),λ a σ g gs=>(ll g p.2).symm▸(gs.vs ho vs.2 λ aa z=>z).elim λ us z=>
  ⟨.int us.length,ah (λ n:Nat=>AV.int n) z.2.len,λ K k=>dF z.1 (EP z.2.len hn k)⟩⟩)
 (ob (toAV t) λ v=>ob (Uo v.1) λ l=>bE (bB l.1.length 1000000) λ hn=>af ⟨.ex (.int l.1.length),λ a σ g gs=>((v.2 _ g).trans l.2).symm▸⟨_,rfl,λ K k=>EP rfl hn k⟩⟩)))
theorem jK.u{α β:Type}{x:aq α}{f:(a:α)->x=af a->aq β}{y:β}{Q:Prop}(h:jK x f=af y)(k:∀a e,f a e=af y->Q):Q:=by
 rcases x with _|a
 ·exact cu h
 ·exact k a rfl h
theorem oe.v{α:Type}{x y:aq α}{r:α}{Q:Prop}(h:oe x y=af r)(k1:x=af r->Q)(k2:y=af r->Q):Q:=by
 rcases x with _|x
 ·exact k2 h
 ·exact k1 h
noncomputable def yU:(ts:ae TV)->aq {t:TV // ts=[t]}
 |[t]=>af ⟨t,rfl⟩
 |_=>none
noncomputable def QX:(ts:ae TV)->aq {t:TV×TV // ts=[t.1,t.2]}
 |[t,u]=>af ⟨(t,u),rfl⟩
 |_=>none
theorem dD.v1{t:TV}{ts:ae TV}{vs:ae AV}{Q:ae AV->Prop}(e:ts=[t])(g:dD ts vs)(k:∀v,GV t v->Q [v]):Q vs:=(e▸g:dD [t] vs).u1 k
theorem dD.v2{t u:TV}{ts:ae TV}{vs:ae AV}{Q:ae AV->Prop}(e:ts=[t,u])(g:dD ts vs)(k:∀v w,GV t v->GV u w->Q [v,w]):Q vs:=(e▸g:dD [t,u] vs).u2 k
def Z6(f:TV->AS->aq (ae (TV×AS)))(ts:ae TV)(s:AS):aq (ae (TV×AS)):=ob (yU ts) λ t=>f t.1 s
theorem EQ{f:TV->AS->aq (ae (TV×AS))}{lQ:xK}(k:∀t s outs a σ,f t s=af outs->GV t a->GS s σ->D2 (lQ [a] σ) GV outs)(ts:ae TV)(s:AS)(outs:ae (TV×AS))(vs:ae AV)(σ:St)(h:Z6 f ts s=af outs)(g:dD ts vs)(gs:GS s σ):D2 (lQ vs σ) GV outs:=
 ob.u h λ t aa h=>dD.v1 t.2 g (Q:=λ vs=>D2 (lQ vs σ) GV outs) λ a ga=>k _ s outs a σ h ga gs
def Ws:Bf P ct where
 nm:="len"
 f:= .builtin "len"
 lQ:=MR
 jj:=false
 hf:=λ aa e=>nomatch e
 snd:=λ F G ρ σ s Kv dr vs aa O R va h=>va.a1 (Q:=λ vs=>WP P F.A (call (.builtin "len") vs []) (PE F ct.aR G ρ Kv) s) h λ a u h vu=>X.any (Py R vu h)
 lf:=Z6 λ t s=>ob (acw t s) λ u=>af [(u.1,s)]
 lk:=EQ λ t s outs a σ h ga gs=>ob.u h λ u aa h=>(u.2 a σ ga gs).elim λ v k=>D2.one h k.1 gs k.2
def Zw(q:c7)(as:SL P ct)(p:c7):SE P ct:=xB Ws q as p
def P4(a:AV)(K:aC->Prop):Prop:=match a with
 | .bool b=>K b
 |_=>False
theorem P4.u{a:AV}{K:aC->Prop}{Q:AV->Prop}(h:P4 a K)(k:∀b,K b->Q (.bool b)):Q a:=by
 rcases a with _|_|b|_|_|_|_|_|_|_|_|_|_|_|_|_|_|_
 case bool=>exact k b h
 all_goals exact h.elim
def U4:xK:=λ vs σ K=>G8 vs λ a=>P4 a λ b=>K (.int (aY b 1 0)) σ
theorem S6(b:aC):(0:Int)<=aY b 1 0/\(aY b 1 0:Int)<=1:=by cases b<;>decide
theorem T4{b:aC}:(if b then 1 else 0:Int)=aY b 1 0:=by cases b<;>rfl
def Wr:Bf P ct where
 nm:="int"
 f:= .type "int"
 lQ:=U4
 jj:=false
 hf:=λ aa e=>nomatch e
 snd:=λ F G ρ σ s Kv dr vs aa O R va h=>va.a1 (Q:=λ vs=>WP P F.A (call (.type "int") vs []) (PE F ct.aR G ρ Kv) s) h λ a u h vu=>P4.u (Q:=λ a=>VR G ρ a u->WP P F.A (call (.type "int") [u] []) (PE F ct.aR G ρ Kv) s) h (λ b h va=>va.Ry (Q:=λ u=>WP P F.A (call (.type "int") [u] []) (PE F ct.aR G ρ Kv) s)
  (X.any (call_int_bool (PE.here (R.toks _) (T4▸VR.mA) h)))) vu
 lf:=Z6 λ t s=>ob (Y5 t) λ u=>af [(.rg 0 1,s)]
 lk:=EQ λ t s outs a σ h ga gs=>ob.u h λ u aa h=>(u.2 a ga).elim λ b e=>e.symm▸D2.one (a:=AV.int (aY b 1 0)) h ⟨_,rfl,S6 b⟩ gs λ K k=>k
def Zv(q:c7)(as:SL P ct)(p:c7):SE P ct:=xB Wr q as p
def MQ:xK:=λ vs σ K=>G8 vs λ a=>lA a λ p=>pB σ.mem p λ o=>CU o λ b=>need (b.length < 1000000) (K (.kq b) σ)
noncomputable def Os:Bf P ct where
 nm:="bytes"
 f:= .type "bytes"
 lQ:=MQ
 jj:=false
 hf:=λ aa e=>nomatch e
 snd:=λ F G ρ σ s Kv dr vs aa O R va h=>va.a1 (Q:=λ vs=>WP P F.A (call (.type "bytes") vs []) (PE F ct.aR G ρ Kv) s) h λ a u h vu=>lA.u (Q:=λ a=>VR G ρ a u->WP P F.A (call (.type "bytes") [u] []) (PE F ct.aR G ρ Kv) s) h (λ p h va=>h.u λ o e h=>R.own va e (Q:=λ u=>WP P F.A (call (.type "bytes") [u] []) (PE F ct.aR G ρ Kv) s) λ adr ob aa h1 q=>
  CU.u (Q:=λ o=>OR G ρ o ob->WP P F.A (call (.type "bytes") [.ref adr] []) (PE F ct.aR G ρ Kv) s) h (λ b h q=>h.u λ hb h=>X.any (xR ((show ob=nC b from q)▸h1) (eU (b9 hb (dX.symm▸(by decide:1000000 < 16777216)))) (PE.here (R.toks _) VR.Rz h))) q) vu
def Nv(q:c7)(as:SL P ct)(p:c7):SE P ct:=xB Os q as p
def YS:xK:=λ vs σ K=>Ux vs (K (.own σ.mem.length) ⟨σ.loc,σ.mem++[.ba []]⟩)
theorem PE.E1{F:Fd}{aR:ae bM}{G:BM}{ρ:ae au}{σ:St}{s s':ar}{Kv:AV->St->Prop}{a:au}{o:Obj}{ao:AO}(R:RF F aR G ρ σ s)(ha:s.heap.get? a=none)(he:s'.heap.get? a=af o)(q:OR G (ρ++[a]) ao o)
  (k:∀b o,s.heap.get? b=af o->s'.heap.get? b=af o) (z:s'.gens=s.gens/\s'.gens=s.gens/\s'.os=s.os) (h:Kv (.own σ.mem.length) ⟨σ.loc,σ.mem++[ao]⟩):PE F aR G ρ Kv (.ref a) s':=
 PE.up (dC.refl _) (Ext.snoc _ _) (PE.here (R.new ha he q k z) (VR.IP R.Dk) h)
noncomputable def aax:Bf P ct where
 nm:="bytearray"
 f:= .type "bytearray"
 lQ:=YS
 jj:=true
 hf:=λ aa e=>nomatch e
 snd:=λ F G ρ σ s Kv dr vs hj O R va h=>va.a0 (Q:=λ vs=>WP P F.A (call (.type "bytearray") vs []) (PE F ct.aR G ρ Kv) s) h λ h=>X.jt (hj rfl) (X.Ee λ h' e1 e2=>PE.E1 (ao:= .ba []) (s':={s with heap:=h'}) R R.K0 e1 rfl e2 ⟨rfl,rfl,rfl⟩ h)
def xBa(q:c7)(as:SL P ct)(p:c7):SE P ct:=xB aax q as p
end
section
variable{P:cC}{ct:Ct}
noncomputable abbrev vO:=AV->St->(AV->St->Prop)->Prop
noncomputable abbrev N3:=AV->AV->St->(AV->St->Prop)->Prop
def one(f:vO):xK:=λ vs σ K=>G8 vs λ a=>f a σ K
def two(f:N3):xK:=λ vs σ K=>Yn vs λ a b=>f a b σ K
abbrev N4(P:cC)(ct:Ct)(f:am)(jj:aC)(lQ:vO):Prop:=∀F G ρ σ s Kv a v,(jj=true->P.j=true)->gH P ct F->RF F ct.aR G ρ σ s->VR G ρ a v->lQ a σ Kv->WP P F.A (call f [v] []) (PE F ct.aR G ρ Kv) s
abbrev aaq(P:cC)(ct:Ct)(f:am)(jj:aC)(lQ:N3):Prop:=∀F G ρ σ s Kv a b v w,(jj=true->P.j=true)->gH P ct F->RF F ct.aR G ρ σ s->VR G ρ a v->VR G ρ b w->lQ a b σ Kv->WP P F.A (call f [v,w] []) (PE F ct.aR G ρ Kv) s
def Rv(x:bM)(f:am)(lQ:vO)(jj:aC)(hf:∀a,f≠ .ref a)(snd:N4 P ct f jj lQ)(lf:TV->AS->aq (ae (TV×AS)):=λ aa aa=>none)(lk:∀t s outs a σ,lf t s=af outs->GV t a->GS s σ->D2 (lQ a σ) GV outs:=by nofun):Bf P ct:=
 {nm:=x,f:=f,lQ:=one lQ,jj:=jj,hf:=hf,snd:=λ F G ρ σ s Kv dr vs hj O R va h=>va.a1 (Q:=λ vs=>WP P F.A (call f vs []) (PE F ct.aR G ρ Kv) s) h λ a u h vu=>snd F G ρ σ s Kv a u hj O R vu h,lf:=Z6 lf,lk:=EQ lk}
def lf2(f:TV->TV->AS->aq (ae (TV×AS)))(ts:ae TV)(s:AS):aq (ae (TV×AS)):=ob (QX ts) λ t=>f t.1.1 t.1.2 s
theorem Un{f:TV->TV->AS->aq (ae (TV×AS))}{lQ:xK}(k:∀t u s outs a b σ,f t u s=af outs->GV t a->GV u b->GS s σ->D2 (lQ [a,b] σ) GV outs)(ts:ae TV)(s:AS)(outs:ae (TV×AS))(vs:ae AV)(σ:St)(h:lf2 f ts s=af outs)(g:dD ts vs)(gs:GS s σ):D2 (lQ vs σ) GV outs:=
 ob.u h λ t aa h=>dD.v2 t.2 g (Q:=λ vs=>D2 (lQ vs σ) GV outs) λ a b ga gb=>k _ _ s outs a b σ h ga gb gs
def bf2(x:bM)(f:am)(lQ:N3)(jj:aC)(hf:∀a,f≠ .ref a)(snd:aaq P ct f jj lQ)(lf:TV->TV->AS->aq (ae (TV×AS)):=λ aa aa aa=>none)(lk:∀t u s outs a b σ,lf t u s=af outs->GV t a->GV u b->GS s σ->D2 (lQ a b σ) GV outs:=by nofun):Bf P ct:=
 {nm:=x,f:=f,lQ:=two lQ,jj:=jj,hf:=hf,snd:=λ F G ρ σ s Kv dr vs hj O R va h=>va.a2 (Q:=λ vs=>WP P F.A (call f vs []) (PE F ct.aR G ρ Kv) s) h λ a b u v h vu vv=>snd F G ρ σ s Kv a b u v hj O R vu vv h,lf:=lf2 lf,lk:=Un lk}
noncomputable def EW:ae Int->Int
 |[]=>0
 |[a]=>a
 |a::r=>aY (decide (a < EW r)) (EW r) a
noncomputable def CD:ae Int->Int
 |[]=>0
 |[a]=>a
 |a::r=>aY (decide (CD r < a)) (CD r) a
theorem yi{c m x:Int}{l:ae Int}{p:Prop}[fA p]{le:Int->Int->Prop}(z:x∈l/\∀a∈l,le a x)(e:m=aY (decide p) x c)(h1:p->le c x)(h2:¬p->le x c)(rf:le c c)(tr:∀{a b c},le a b->le b c->le a c):m∈c::l/\∀a∈c::l,le a m:=
 (rn p).elim (λ q=>(e.trans (ah (aY · x c) (cy q))).symm▸⟨.tail _ z.1,aJ.mpr ⟨h1 q,z.2⟩⟩)
  λ q=>(e.trans (ah (aY · x c) (dh q))).symm▸⟨.head _,aJ.mpr ⟨rf,λ a ha=>tr (z.2 a ha) (h2 q)⟩⟩
theorem yQ:∀(l:ae Int),l≠[]->EW l∈l/\∀a∈l,a<=EW l
 |[]=>λ h=>bt rfl h
 |[a]=>λ aa=>⟨.head _,λ x h=>dV (aZ.mp h)⟩
 |a::b::r=>λ aa=>yi (le:=(·<=·)) (p:=a < EW (b::r)) (yQ (b::r) (lE _ _)) rfl eT gV.mp (dR _) aO
theorem tK:∀(l:ae Int),l≠[]->CD l∈l/\∀a∈l,CD l<=a
 |[]=>λ h=>bt rfl h
 |[a]=>λ aa=>⟨.head _,λ x h=>dV (aZ.mp h).symm⟩
 |a::b::r=>λ aa=>yi (le:=λ x y=>y<=x) (p:=CD (b::r) < a) (tK (b::r) (lE _ _)) rfl eT gV.mp (dR _) λ h k=>aO k h
theorem cw.G5{ns:ae Int}{vs:ae am}(h:IntsAre vs ns):cw ns vs:=by
 induction h with
 |nil=>rfl
 |cons a t _ ih=>exact⟨t,_,rfl,ih⟩
def XA(o:AO)(K:ae Int->Prop):Prop:=match o with
 | .lst xs=>sL (intsOf xs) K
 | .il ns=>K ns
 |_=>False
def lN(a:AV)(mem:ae AO)(K:ae Int->Prop):Prop:=match a with
 | .own p=>pB mem p λ o=>XA o K
 | .row ns=>K ns
 | .lst xs=>sL (intsOf xs) K
 |_=>False
section
variable{F:Fd}{G:BM}{ρ:ae au}{σ:St}{s:ar}{a:AV}{v:am}{Kv:AV->St->Prop}
theorem lN.u{aR:ae bM}{K:ae Int->Prop}{Q:am->Prop}(h:lN a σ.mem K)(R:RF F aR G ρ σ s)(va:VR G ρ a v)(k:∀l o vs ns,s.heap.get? l=af o->iX o vs->cw ns vs.toList->K ns->Q (.ref l)):Q v:=by
 rcases a with _|_|_|_|_|p|_|_|_|_|_|xs|ns|_|_|_|_|_
 case own=>
  exact pB.u h λ o e h=>R.own va e (Q:=Q) λ adr ob aa h1 q=>by
   rcases o with xs|ns|_|_|_|_|_|_
   case lst=>exact aD q λ us q=>sL.u h λ ns e h=>k adr ob us ns h1 q.1 (n6 e q.2) h
   case il=>exact aD q λ us q=>k adr ob us ns h1 q.1 q.2 h
   all_goals exact h.elim
 case lst=>exact va.lstU (Q:=Q) λ l o us hg hl hv=>sL.u h λ ns e h=>k l o us ns (R.rm.kg _ _ hg) hl (n6 e hv) h
 case row=>exact va.C8 (Q:=Q) λ l o us hg hl hv=>k l o us ns (R.rm.kg _ _ hg) hl hv h
 all_goals exact h.elim
end
def Ho:vO:=λ a σ K=>j5 a λ i=>K (.int i.natAbs) σ
def Qy:N3:=λ a b σ K=>j5 a λ i=>j5 b λ j=>K (.int (aY (decide (j > i)) j i)) σ
noncomputable def Oc(q:Int×Int):Int×Int:=aY (decide (0<=q.1)) q (aY (decide (q.2<=0)) (-q.2,-q.1) (0,aY (decide (-q.1<=q.2)) q.2 (-q.1)))
theorem F0{q:Int×Int}{i:Int}(h0:q.1<=i)(h1:i<=q.2):(Oc q).1<=i.natAbs/\(i.natAbs:Int)<=(Oc q).2:=by
 unfold Oc
 by_cases a:0<=q.1
 ·rw[cy a,l4 (aO a h0)]; exact⟨h0,h1⟩
 ·rw[dh a]
  by_cases b:q.2<=0
  ·rw[cy b,na (aO h1 b)]; exact⟨m_ h1,m_ h0⟩
  ·rw[dh b]
   refine⟨j9 _,?_⟩
   have m:(i.natAbs:Int)<=q.2\/(i.natAbs:Int)<=-q.1:=(Int.le_total 0 i).imp (λ h=>aO (dV (l4 h)) h1) λ h=>aO (dV (na h)) (m_ h0)
   by_cases c: -q.1<=q.2
   ·rw[cy c]; exact m.elim id λ h=>aO h c
   ·rw[dh c]; exact m.elim (λ h=>aO h (eT (Int.not_le.mp c))) id
theorem SU(i:Int):(if i < 0 then -i else i)=(i.natAbs:Int):=(rn (i < 0)).elim (λ h=>(dj h).trans (na (eT h)).symm) λ h=>(bC h).trans (l4 (gV.mp h)).symm
def Wq:Bf P ct:=Rv "abs" (.builtin "abs") Ho false (λ aa e=>nomatch e) (λ F G ρ σ s Kv a v aa O R va h=>h.u (Q:=λ v=>WP P F.A (call (.builtin "abs") [v] []) (PE F ct.aR G ρ Kv) s) va λ i t h=>X.any (PyProof.Rows.call_abs_int λ u tk=>PE.here (R.toks _) ((SU i).symm▸VR.mA) h))
 (lf:=λ t s=>ob (l6 t) λ q=>af [(R5 (Oc q),s)]) (lk:=λ t s outs a σ h ga gs=>ob.u h λ q e h=>l6.u (Q:=λ a=>D2 (Ho a σ) GV outs) e ga λ i i0 i1=>D2.one (a:=AV.int i.natAbs) h (tL (F0 i0 i1).1 (F0 i0 i1).2) gs λ K k=>k)
def acP(q:c7)(as:SL P ct)(p:c7):SE P ct:=xB Wq q as p
theorem VR.abU{G:BM}{ρ:ae au}{i j:Int}{t u:j_}:VR G ρ (.int (aY (decide (j > i)) j i)) (if j > i then .int j u else .int i t):=by
 by_cases c:j > i
 ·rw[dj c,cy c]; exact VR.mA
 ·rw[bC c,dh c]; exact VR.mA
def S2:Bf P ct:=bf2 "max" (.builtin "max") Qy false (λ aa e=>nomatch e) (λ F G ρ σ s Kv a b v w aa O R va vb h=>h.u (Q:=λ v=>WP P F.A (call (.builtin "max") [v,w] []) (PE F ct.aR G ρ Kv) s) va λ i t h=>h.u (Q:=λ w=>WP P F.A (call (.builtin "max") [.int i t,w] []) (PE F ct.aR G ρ Kv) s) vb λ j u h=>
  X.any (max_two_ints O.room.2.2 λ h' tk hk=>PE.here (R.grow (s':={s with heap:=h',toks:=tk}) hk ⟨rfl,rfl,rfl⟩) VR.abU h))
 (lf:=λ t u s=>ob (lg t) λ i=>ob (lg u) λ j=>af [(.ex (.int (aY (decide (j.1 > i.1)) j.1 i.1)),s)]) (lk:=λ t u s outs a b σ h ga gb gs=>ob.u h λ i aa h=>ob.u h λ j aa h=>(ll ga i.2).symm▸(ll gb j.2).symm▸D2.one (a:=AV.int (aY (decide (j.1 > i.1)) j.1 i.1)) h rfl gs λ K k=>k)
def Zx(q:c7)(as:SL P ct)(p:c7):SE P ct:=xB S2 q as p
def Hp:vO:=λ a σ K=>lN a σ.mem λ ns=>aY ns.isEmpty False (K (.int (EW ns)) σ)
def Qz:vO:=λ a σ K=>lN a σ.mem λ ns=>aY ns.isEmpty False (K (.int (CD ns)) σ)
theorem Mp:∀{ns:ae Int} {vs:ae am},cw ns vs->∃l:ae (Int×j_),vs=l.map (λ p=> .int p.1 p.2)/\l.map (·.1)=ns
 |[],_=>λ h=>h.u0 (Q:=λ vs=>∃l:ae (Int×j_),vs=l.map (λ p=> .int p.1 p.2)/\l.map (·.1)=[]) ⟨[],rfl,rfl⟩
 |i::r,_=>λ h=>h.uc (Q:=λ vs=>∃l:ae (Int×j_),vs=l.map (λ p=> .int p.1 p.2)/\l.map (·.1)=i::r) λ t vs h=>(Mp h).elim λ l z=>⟨(i,t)::l,ah (eA i t::·) z.1,ah (i::·) z.2⟩
theorem Cn{h:Heap}{l:au}{o:Obj}{us:bD am}{ns:ae Int}(ho:h.get? l=af o)(hl:iX o us)(hi:cw ns us.toList):∃xs:bD (Int×j_),h.IsList l (intItems xs)/\xs.toList.map (·.1)=ns:=
 (Mp hi).elim λ ps z=>⟨ps.toArray,(Array.toList_inj.mp (z.1.trans (Array.toList_map).symm):us=intItems ps.toArray)▸⟨o,ho,hl.is⟩,z.2⟩
theorem F_{xs:bD (Int×j_)}{ns:ae Int}(e:xs.toList.map (·.1)=ns){b:Nat}(hb:b<=xs.size - 1){m:Int}(hm:m∈ns){le:Int->Int->Prop}(aav:∀{x y},le x y->le y x->x=y)(h1:∀x∈ns,le x m)(h2:∀j,j<=xs.size - 1->le (numAt xs j) (numAt xs b)):numAt xs b=m:=
 have sz:ns.length=xs.size:=e▸(bJ _).trans bf
 (mem_getD hm).elim λ j hj=>have lt:j < xs.size:=sz▸hj.1; aav (h1 _ (((numAt_eq xs b).trans (ah (List.getD · b 0) e)).symm▸getD_mem (sz.symm▸aS hb (Nat.sub_lt (aS (ot j) lt) Nat.one_pos))))
  ((((numAt_eq xs j).trans (ah (List.getD · j 0) e)).trans hj.2)▸h2 j (Nat.le_sub_one_of_lt lt))
theorem neE{ns:ae Int}{k:Prop}(h:aY ns.isEmpty False k):ns≠[]/\k:=by
 rcases ns with _|⟨n,r⟩
 ·exact h.elim
 ·exact⟨lE _ _,h⟩
theorem F5{xs:bD (Int×j_)}{ns:ae Int}(e:xs.toList.map (·.1)=ns)(h:ns≠[]):0 < xs.size:=bf▸(bJ (f:=λ p:Int×j_=>p.1))▸e▸fQ.mpr h
noncomputable def RU(xs:ae AV):aq {ns:ae Int // intsOf xs=af ns}:=match h:intsOf xs with
 |some ns=>af ⟨ns,rfl⟩
 |none=>none
def Lq(a:AV)(m:ae AO):aq {ns:ae Int // ∀K:ae Int->Prop,K ns->lN a m K}:=match a with
 | .own p=>jK (bK m p) λ o ho=>match o,ho with
  | .lst xs,ho=>ob (RU xs) λ ns=>af ⟨ns.1,λ K z=>dF ho (qy ns.2 z)⟩
  | .il ns,ho=>af ⟨ns,λ K z=>dF ho z⟩
  |_,_=>none
 | .row ns=>af ⟨ns,λ K z=>z⟩
 | .lst xs=>ob (RU xs) λ ns=>af ⟨ns.1,λ K z=>qy ns.2 z⟩
 |_=>none
def Tw(a:AV)(σ:St):aq {r:AV×St // tv (Hp a σ) r}:=ob (Lq a σ.mem) λ ns=>bE (!ns.1.isEmpty) λ h=>af ⟨(.int (EW ns.1),σ),λ K z=>ns.2 _ ((ah (aY · False _) (nb h)).mpr z)⟩
def S3:Bf P ct:=Rv "max" (.builtin "max") Hp false (λ aa e=>nomatch e) (λ F G ρ σ s Kv a v aa O R va h=>h.u (Q:=λ v=>WP P F.A (call (.builtin "max") [v] []) (PE F ct.aR G ρ Kv) s) R va λ l o us ns ho hl hi h=>have h:=neE h
  (Cn ho hl hi).elim λ xs e=>X.any (max_intList O.room.2.2 e.1 (F5 e.2 h.1) λ v h' tk hv hk=>(intItems_at hv).elim λ t ev=>ev.symm▸have b:=argBest_gt (numAt xs) (xs.size - 1); have m:=yQ ns h.1
   (F_ (le:=(·<=·)) e.2 b.1 m.1 eY m.2 b.2).symm▸PE.here (R.grow (s':={s with heap:=h',toks:=tk}) hk ⟨rfl,rfl,rfl⟩) VR.mA h.2)) (lf:=WY Tw) (lk:=zN)
def Zy(q:c7)(as:SL P ct)(p:c7):SE P ct:=xB S3 q as p
def S4:Bf P ct:=Rv "min" (.builtin "min") Qz false (λ aa e=>nomatch e) (λ F G ρ σ s Kv a v aa O R va h=>h.u (Q:=λ v=>WP P F.A (call (.builtin "min") [v] []) (PE F ct.aR G ρ Kv) s) R va λ l o us ns ho hl hi h=>have h:=neE h
  (Cn ho hl hi).elim λ xs e=>X.any (min_intList O.room.2.2 e.1 (F5 e.2 h.1) λ v h' tk hv hk=>(intItems_at hv).elim λ t ev=>ev.symm▸have b:=argBest_lt (numAt xs) (xs.size - 1); have m:=tK ns h.1
   (F_ (le:=λ x y=>y<=x) e.2 b.1 m.1 (λ h k=>eY k h) m.2 b.2).symm▸PE.here (R.grow (s':={s with heap:=h',toks:=tk}) hk ⟨rfl,rfl,rfl⟩) VR.mA h.2))
def Sz(q:c7)(as:SL P ct)(p:c7):SE P ct:=xB S4 q as p
noncomputable def M1(i:Int):aC:=decide (-1073741824 < i/\i < 1073741824)
theorem y_{i:Int}(h:M1 i=true): -1073741824 < i/\i < 1073741824:=a4 h
theorem PE.fzn{F:Fd}{aR:ae bM}{G:BM}{ρ:ae au}{σ:St}{s s':ar}{Kv:AV->St->Prop}{a:au}{o:Obj}{av:AV}(R:RF F aR G ρ σ s)(ha:s.heap.get? a=none)(he:s'.heap.get? a=af o)(k:∀b o,s.heap.get? b=af o->s'.heap.get? b=af o)(z:s'.gens=s.gens/\s'.gens=s.gens/\s'.os=s.os)
  (va:dC G (G.with a o)->(G.with a o) a=af o->VR (G.with a o) ρ av (.ref a)) (h:Kv av σ):PE F aR G ρ Kv (.ref a) s':=
 have R':=R.freeze ha he k z
 PE.up R'.2 (Ext.refl _) (PE.here R'.1 (va R'.2 (BM.zf _ _ _)) h)
theorem tM{F:Fd}{aR:ae bM}{G:BM}{ρ:ae au}{σ:St}{s:ar}{Kv:AV->St->Prop}{a b c:Int}{t u v:j_}{tk:Nat}(R:RF F aR G ρ σ s)(h:Kv (.j6 a b c) σ):
  PE F aR G ρ Kv (.ref s.heap.objs.size) {s with heap:=s.heap.push {cls:= .type "range",data:= .fields #[.int a t, .int b u, .int c v]},toks:=tk}:=
 PE.fzn (s':={s with heap:=s.heap.push {cls:= .type "range",data:= .fields #[.int a t, .int b u, .int c v]},toks:=tk}) (av:= .j6 a b c) R R.K0 (aN _ rfl) (λ b o e=>aA _ e) ⟨rfl,rfl,rfl⟩ (λ aa e=>i4 _ ⟨t,u,v,rfl,e⟩) h
def aay:Bf P ct:=Rv "range" (.type "range") (λ a σ K=>j5 a λ n=>K (.j6 0 n 1) σ) false (λ aa e=>nomatch e) (λ F G ρ σ s Kv a v aa O R va h=>h.u (Q:=λ v=>WP P F.A (call (.type "range") [v] []) (PE F ct.aR G ρ Kv) s) va λ n t h=>X.any (call_range_1 (tM R h)))
 (lf:=λ t s=>ob (lg t) λ n=>af [(.ex (.j6 0 n.1 1),s)]) (lk:=λ t s outs a σ h ga gs=>ob.u h λ n aa h=>(ll ga n.2).symm▸D2.one (a:=AV.j6 0 n.1 1) h rfl gs λ K z=>z)
def HL(q:c7)(as:SL P ct)(p:c7):SE P ct:=xB aay q as p
def aaz:Bf P ct:=bf2 "range" (.type "range") (λ a b σ K=>j5 a λ m=>j5 b λ n=>K (.j6 m n 1) σ) false (λ aa e=>nomatch e) (λ F G ρ σ s Kv a b v w aa O R va vb h=>h.u (Q:=λ v=>WP P F.A (call (.type "range") [v,w] []) (PE F ct.aR G ρ Kv) s) va λ m t h=>h.u (Q:=λ w=>WP P F.A (call (.type "range") [.int m t,w] []) (PE F ct.aR G ρ Kv) s) vb λ n u h=>X.any (call_range_2 (tM R h)))
 (lf:=λ t u s=>ob (lg t) λ m=>ob (lg u) λ n=>af [(.ex (.j6 m.1 n.1 1),s)]) (lk:=λ t u s outs a b σ h ga gb gs=>ob.u h λ m aa h=>ob.u h λ n aa h=>(ll ga m.2).symm▸(ll gb n.2).symm▸D2.one (a:=AV.j6 m.1 n.1 1) h rfl gs λ K z=>z)
def Q7(q:c7)(as:SL P ct)(p:c7):SE P ct:=xB aaz q as p
def Z9(k:Int):aC:=M1 k&&(aY (decide (k=0)) false true)
def Sl:xK:=λ vs σ K=>Yo vs λ a b c=>j5 a λ m=>j5 b λ n=>j5 c λ k=>cJ (Z9 k) (K (.j6 m n k) σ)
theorem UJ{k:Int}(h:Z9 k=true):k≠0/\Builtin.divisionGoesByPylong 0 k=Builtin.divisionGoesByPylong 0 k/\-1073741824 < k/\k < 1073741824:=⟨λ e=>ay ((ah (aY · false true) (cy e)).symm.trans (aG h).2),rfl,y_ (aG h).1⟩
theorem UL{a k:Int}(h:Z9 k=true):Builtin.divisionGoesByPylong a k=false:=oA (by have:=y_ (aG h).1; omega)
noncomputable def Vi:(ts:ae TV)->aq {t:TV×TV×TV // ts=[t.1,t.2.1,t.2.2]}
 |[t,u,v]=>af ⟨(t,u,v),rfl⟩
 |_=>none
theorem dD.v3{t u w:TV}{ts:ae TV}{vs:ae AV}{Q:ae AV->Prop}(e:ts=[t,u,w])(g:dD ts vs)(k:∀a b c,GV t a->GV u b->GV w c->Q [a,b,c]):Q vs:=(e▸g:dD [t,u,w] vs).uc (Q:=Q) λ a r ga g=>g.u2 (Q:=λ r=>Q (a::r)) λ b c=>k a b c ga
def aaA:Bf P ct where
 nm:="range"
 f:= .type "range"
 lQ:=Sl
 jj:=false
 hf:=λ aa e=>nomatch e
 snd:=λ F G ρ σ s Kv dr vs aa O R va h=>va.a3 (Q:=λ vs=>WP P F.A (call (.type "range") vs []) (PE F ct.aR G ρ Kv) s) h λ a b c u v w h va vb vc=>h.u (Q:=λ u=>WP P F.A (call (.type "range") [u,v,w] []) (PE F ct.aR G ρ Kv) s) va λ m t h=>h.u (Q:=λ v=>WP P F.A (call (.type "range") [.int m t,v,w] []) (PE F ct.aR G ρ Kv) s) vb λ n t' h=>
  h.u (Q:=λ w=>WP P F.A (call (.type "range") [.int m t, .int n t',w] []) (PE F ct.aR G ρ Kv) s) vc λ k t'' h=>h.u λ hk h=>X.any (call_range_3 (UJ hk).1 (tM R h) (.inl (UL hk)))
 lf:=λ ts s=>ob (Vi ts) λ t=>ob (lg t.1.1) λ m=>ob (lg t.1.2.1) λ n=>ob (lg t.1.2.2) λ k=>nB (Z9 k.1) (af [(.ex (.j6 m.1 n.1 k.1),s)])
 lk:=λ ts s outs vs σ h g gs=>ob.u h λ t aa h=>ob.u h λ m aa h=>ob.u h λ n aa h=>ob.u h λ k aa h=>nB.u h λ hk h=>dD.v3 t.2 g (Q:=λ vs=>D2 (Sl vs σ) GV outs) λ a b c ga gb gc=>(ll ga m.2).symm▸(ll gb n.2).symm▸(ll gc k.2).symm▸D2.one (a:=AV.j6 m.1 n.1 k.1) h rfl gs λ K z=>cJ.i hk z
def Q8(q:c7)(as:SL P ct)(p:c7):SE P ct:=xB aaA q as p
noncomputable def Qm(a c:Int):Nat->ae Int
 |0=>[]
 |n+1=>a::Qm (a+c) c n
theorem y5(c:Int):∀(n:Nat) (a:Int) (vs:ae am),vs.length=n->(∀(i:Nat) v,vs[i]?=af v->∃t,v= .int (a+i * c) t)->cw (Qm a c n) vs
 |0,_,[]=>λ aa aa=>rfl
 |0,_,_::_=>λ h aa=>bt h (cx _)
 |_+1,_,[]=>λ h aa=>bt h.symm (cx _)
 |n+1,a,v::vs=>λ hl h=>(h 0 v rfl).elim λ t ht=>⟨t,vs,ah (·::vs) (ht.trans (ah (eA · t) ((ah (a+·) (Int.zero_mul c)).trans (Int.add_zero a)))),y5 c n (a+c) vs (eG hl) λ i w hw=>(h (i+1) w hw).imp λ t' e=>e.trans (ah (eA · t')
   ((ah (a+·) ((Int.add_mul (i:Int) 1 c).trans ((ah ((i:Int) * c+·) (Int.one_mul c)).trans (Int.add_comm ..)))).trans (Int.add_assoc a c _).symm))⟩
def vm:vO:=λ a σ K=>match a with
 | .j6 a b c=>cJ (Builtin.Range.small a b c&&bB (Builtin.Range.rangeSize a b c).toNat 1000) (K (.row (Qm a c (Builtin.Range.rangeSize a b c).toNat)) σ)
 |a=>lN a σ.mem λ ns=>cJ (bB ns.length 1000) (K (.row ns) σ)
theorem Hl{F:Fd}{aR:ae bM}{G:BM}{ρ:ae au}{σ:St}{s:ar}{Kv:AV->St->Prop}{h':Heap}{tk:Nat}{xs:bD am}{c':Nat}{ns:ae Int}(R:RF F aR G ρ σ s)(hk:∀b o,s.heap.get? b=af o->h'.get? b=af o)
  (he:h'.get? s.heap.objs.size=af {cls:= .type "list",dict:=none,data:= .seq xs c',slots:=#[]}) (hi:cw ns xs.toList) (h:Kv (.row ns) σ):PE F aR G ρ Kv (.ref s.heap.objs.size) {s with heap:=h',toks:=tk}:=
 PE.fzn (s':={s with heap:=h',toks:=tk}) (av:= .row ns) R R.K0 he hk ⟨rfl,rfl,rfl⟩ (λ aa e=>VR.Qp e ⟨_,rfl⟩ hi) h
theorem tJ{F:Fd}{G:BM}{ρ:ae au}{σ:St}{s:ar}{Kv:AV->St->Prop}{a:AV}{v:am}(R:RF F ct.aR G ρ σ s)(va:VR G ρ a v)(h:lN a σ.mem λ ns=>cJ (bB ns.length 1000) (Kv (.row ns) σ)):
  aH (aE P.prog P.w) F.A (call (.type "list") [v]) (PE F ct.aR G ρ Kv) dq s:=
 h.u (Q:=λ v=>aH (aE P.prog P.w) F.A (call (.type "list") [v]) (PE F ct.aR G ρ Kv) dq s) R va λ l o us ns ho hl hi h=>h.u λ hz h=>hl.is.2.elim λ n hd=>
  call_list_seq (hsz:=aF (aT (bf.symm.trans hi.length)) (aF (aP hz) (dX.symm▸(by decide:1000<=16777216)))) l (.inl rfl) ho hl.is.1 hd λ h' c' hk he=>Hl (tk:=s.toks) R hk he hi h
def zO(a:AV)(σ:St):aq {r:AV×St // tv (λ K=>lN a σ.mem λ ns=>cJ (bB ns.length 1000) (K (.row ns) σ)) r}:=ob (Lq a σ.mem) λ ns=>bE (bB ns.1.length 1000) λ h=>af ⟨(.row ns.1,σ),λ K z=>ns.2 _ (cJ.i h z)⟩
def Tv(a:AV)(σ:St):aq {r:AV×St // tv (vm a σ) r}:=match a with
 | .j6 a b c=>bE (Builtin.Range.small a b c&&bB (Builtin.Range.rangeSize a b c).toNat 1000) λ h=>af ⟨(.row (Qm a c (Builtin.Range.rangeSize a b c).toNat),σ),λ K z=>cJ.i h z⟩
 | .own p=>zO (.own p) σ
 | .row ns=>zO (.row ns) σ
 | .lst xs=>zO (.lst xs) σ
 |_=>none
noncomputable def abw(t:TV):aq {v:Int // ∀x,GV t x->x= .int v}:=match t with
 | .ex (.int i)=>af ⟨i,λ aa g=>g⟩
 | .nr v _ _=>af ⟨v,λ aa g=>g.1⟩
 |_=>none
theorem Cm{i:Int}{x:AV}{r:ae AV}{l:ae Int}(e:x= .int i)(h:intsOf r=af l):intsOf (x::r)=af (i::l):=by
 subst e
 show(match intsOf r with|some l=>af (i::l)|none=>none)=_
 rw[h]
noncomputable def RV:(ts:ae TV)->aq {r:ae Int // ∀us,dD ts us->intsOf us=af r}
 |[]=>af ⟨[],λ us g=>g.u0 (Q:=λ us=>intsOf us=af []) rfl⟩
 |t::ts=>ob (abw t) λ v=>ob (RV ts) λ r=>af ⟨v.1::r.1,λ us g=>g.uc (Q:=λ us=>intsOf us=af (v.1::r.1)) λ u x g1 g2=>Cm (v.2 _ g1) (r.2 _ g2)⟩
def R2(t:TV)(s:AS):aq (ae (TV×AS)):=ob (nK t) λ p=>jK (gR s.mem p.1) λ o ho=>ob (oLst o) λ vs=>ob (RV vs.1) λ r=>nB (bB r.1.length 1000) (af [(.ex (.row r.1),s)])
theorem LR{t:TV}{s:AS}{outs:ae (TV×AS)}{a:AV}{σ:St}(h:R2 t s=af outs)(ga:GV t a)(gs:GS s σ):D2 (vm a σ) GV outs:=
 ob.u h λ p aa h=>jK.u h λ o ho h=>ob.u h λ vs aa h=>ob.u h λ r aa h=>nB.u h λ hl h=>(ll ga p.2).symm▸(gs.vs ho vs.2 λ aa z=>z).elim λ us z=>D2.one (a:=AV.row r.1) h rfl gs λ K k=>dF z.1 (qy (r.2 us z.2) (cJ.i hl k))
theorem LS{F:Fd}{G:BM}{ρ:ae au}{σ:St}{s:ar}{Kv:AV->St->Prop}{a:AV}{v:am}(O:gH P ct F)(R:RF F ct.aR G ρ σ s)(va:VR G ρ a v)(h:vm a σ Kv):aH (aE P.prog P.w) F.A (call (.type "list") [v]) (PE F ct.aR G ρ Kv) dq s:=by
 rcases a with _|_|_|_|_|p|_|_|_|_|_|xs|ns|_|_|⟨x,y,z⟩|_|_
 case j6=>
  exact cJ.u h λ hb h=>aD va λ r w=>w.elim λ t w=>w.elim λ u w=>w.elim λ v w=>w.1.symm▸
   have hn:Builtin.Range.rangeSize x y z=((Builtin.Range.rangeSize x y z).toNat:Int):=(sj (sP x y z)).symm
   call_list_range O.room.2.2 (R.rm.kg _ _ w.2) (aG hb).1 hn (aF (aP (aG hb).2) (by decide)) λ h' tk aez c' hk he hi=>Hl R hk he (y5 z _ x _ (bf.trans hi.1) λ i v hv=>hi.2 i v (bL.symm.trans hv)) h
 case own=>exact tJ R va h
 case lst=>exact tJ R va h
 case row=>exact tJ R va h
 all_goals exact h.elim
def S1:Bf P ct:=Rv "list" (.type "list") vm false (λ aa e=>nomatch e) (λ F G ρ σ s Kv a v aa O R va h=>X.any (LS O R va h))
 (lf:=λ t s=>oe (R2 t s) (WY Tv t s)) (lk:=λ t s outs a σ h ga gs=>oe.v h (λ h=>LR h ga gs) λ h=>zN _ _ _ _ _ h ga gs)
def VA(q:c7)(as:SL P ct)(p:c7):SE P ct:=xB S1 q as p
end
namespace X
theorem Expr{J:aC}{prog:aK}{w:bw}{A:bn}{s:ar}{env:Env}{e:aB}{pos:c7}{Q:mo->ar->Prop}(hi:AQ env=false)(hs:oy e none pos.line env=pure false)
  (h:cK J (aE prog w) A (eval e env) (λ aa s'=>Q .next s') s):cK J (aE prog w) A (exec (.Expr e pos) env) Q s:=by
 rw[exec_Expr env e pos hi hs]
 exact at_ (cL (mono h λ v s' h'=>any (wpAny_dropValue h')))
end X
section
variable{P:cC}{ct:Ct}
noncomputable def Dc(e:SE P ct)(p:c7):SX P ct where
 bA:= .Expr e.bA p
 run:=λ σ K=>e.run σ λ aa aI=>K .d7 aI
 b_:=vg 2 e.bA&&e.b_
 ok:=λ c F G ρ σ s Kv O R h=>X.Expr (by unfold AQ; rw[O.kind]; rfl) (Hv (aG c).1) (X.mono (e.ok (aG c).2 F G ρ σ s _ O R h) λ v s₁ z=>z.u λ G' ρ' a bZ g x R' va k=>PF.d7 g x R' k)
 ab:=JZ e.ab λ aa s=>af [(.d7,s)]
 cN:=λ fo=>nA fo λ t s outs a σ h ga gs=>ak h▸D2.fk rfl gs λ K z=>z
structure Bm(P:cC)(ct:Ct) where
 name:bM
 idOf:AV->ae AO->aq cR
 lQ:cR->AV->ae AV->St->(AV->St->Prop)->Prop
 jj:aC
 X6:∀F G ρ σ s a u id pl (Q:am×ae am->ar->Prop),gH P ct F->RF F ct.aR G ρ σ s->VR G ρ a u->idOf a σ.mem=af id->Q (.builtin id,[u]) s->aH (aE P.prog P.w) F.A (fD u name pl) Q dq s
 snd:∀F G ρ σ s Kv id a dr u vs,(jj=true->P.j=true)->gH P ct F->RF F ct.aR G ρ σ s->VR G ρ a u->bI G ρ dr vs->lQ id a dr σ Kv->WP P F.A (call (.builtin id) (u::vs) []) (PE F ct.aR G ρ Kv) s
 Z2:(t:TV)->(s:AS)->aq {id:cR // ∀a σ,GV t a->GS s σ->idOf a σ.mem=af id}:=λ aa aa=>none
 lf:cR->TV->ae TV->AS->aq (ae (TV×AS)):=λ aa aa aa aa=>none
 lk:∀id t ts s outs a vs σ,lf id t ts s=af outs->GV t a->dD ts vs->GS s σ->D2 (lQ id a vs σ) GV outs:=by nofun
noncomputable def xBm(B:Bm P ct)(o:SE P ct)(ap:c7)(as:SL P ct)(p:c7):SE P ct where
 bA:= .Call (.Attribute o.bA B.name ap) as.bA [] p
 ab:=λ s=>bO (o.ab s) λ t s=>ob (B.Z2 t s) λ id=>bO (as.ab s) λ ts s=>B.lf id.1 t ts s
 cN:=λ fo s outs h σ gs=>(o.cN fo).bind (C:=λ a aI K=>sL (B.idOf a aI.mem) λ id=>as.run aI λ vs aU=>B.lQ id a vs aU K) h gs λ t s l h a σ ga gs=>ob.u h λ id aa h=>
  D2.eq ((as.cN fo).bind (C:=λ vs aU K=>B.lQ id.1 a vs aU K) h gs λ ts s l h vs σ gv gs=>B.lk id.1 t ts s l a vs σ h ga gv gs) λ K k=>qy (id.2 a σ ga gs) k
 run:=λ σ K=>o.run σ λ a aI=>sL (B.idOf a aI.mem) λ id=>as.run aI λ vs aU=>B.lQ id a vs aU K
 b_:=mtB o.bA as.bA ap p&&((!B.jj||P.j)&&(o.b_&&as.b_))
 star:=λ aa aa=>rfl
 ok:=λ c F G ρ σ s Kv O R h=>have c1:=aG (aG c).2
  (GW (aG c).1 B.name F.env (as.plain _ _)).elim λ pl he=>X.BI he (X.mono (o.ok (aG c1.2).1 F G ρ σ s _ O R h) λ u s₁ z=>z.u λ dU c6 a aI fG fb dQ va bH=>bH.u λ id VM bH=>X.any (B.X6 F dU c6 aI s₁ a u id pl _ O dQ va VM
   (X.t_ (Pm:=λ aa=>True) (as.plain _ _) (oO (f:= .builtin id) (λ aa e=>nomatch e)) (X.mono (as.ok (aG c1.2).2 F dU c6 aI s₁ _ _ O dQ bH) λ vs bp z=>z.u λ jn gZ dr aU jd jr gJ qW cU=>
    ⟨trivial,X.mono (B.snd F jn gZ aU bp Kv id a dr u vs (λ e=>(ah (λ b=>(!b||P.j)=true) e).mp c1.1) O gJ (va.up jd jr) qW cU) λ aa aa=>PE.up (fG.trans jd) (fb.trans jr)⟩))))
section
variable{F:Fd}{G:BM}{ρ:ae au}{σ:St}{s:ar}{p:Nat}{a:AV}{v:am}{o:AO}{Kv:AV->St->Prop}{id:cR}{vs:ae AV}
noncomputable def Og(o:AO):aq cR:=match o with
 | .lst _=>af "list.append"
 | .ba _=>af "bytearray.append"
 |_=>none
def pj(f:AO->aq cR)(a:AV)(mem:ae AO):aq cR:=match a with
 | .own p=>(match bK mem p with
  |some o=>f o
  |none=>none)
 |_=>none
theorem pj.u{f:AO->aq cR}{mem:ae AO}{Q:AV->Prop}(h:pj f a mem=af id)(k:∀p o,bK mem p=af o->f o=af id->Q (.own p)):Q a:=by
 rcases a with _|_|_|_|_|p|_|_|_|_|_|_|_|_|_|_|_|_
 case own=>
  rcases e:bK mem p with _|o
  ·exact cu ((ah (λ x=>(match x with|some o=>f o|none=>none)) e).symm.trans h)
  ·exact k p o e ((ah (λ x=>(match x with|some o=>f o|none=>none)) e).symm.trans h)
 all_goals exact cu h
theorem CY{f:AO->aq cR}{mem:ae AO}(e:bK mem p=af o):pj f (.own p) mem=f o:=ah (λ x=>(match x with|some o=>f o|none=>none)) e
theorem x5:PlainAttrs "list":=⟨⟨_,list_getattribute,canon_list_getattribute⟩,list_getattr_none⟩
theorem LZ{M:ir}{A:bn}{l:au}{o:Obj}{vs:bD am}{name:bM}{pl:ie aC}{Q:am×ae am->ar->Prop}(slot:Bb "list" name id)(hty:rH (.builtin id)=pure (.type "method_descriptor"))
  (ho:s.heap.get? l=af o) (hl:iX o vs) (h:Q (.builtin id,[.ref l]) s):aH M A (fD (.ref l) name pl) Q dq s:=
 pE (T:="list") ⟨o,ho,hl.is.1⟩ x5 slot hty (λ a e=>vG e▸⟨o,ho,hl.elim λ n e=>ah Obj.dict e⟩) h
theorem F9{M:ir}{A:bn}{l:au}{bs:ae bX}{name:bM}{pl:ie aC}{Q:am×ae am->ar->Prop}(slot:Bb "bytearray" name id)(hty:rH (.builtin id)=pure (.type "method_descriptor"))
  (ho:s.heap.get? l=af (nC bs)) (h:Q (.builtin id,[.ref l]) s):aH M A (fD (.ref l) name pl) Q dq s:=
 pE (c9 ho) x3 slot hty (λ a e=>vG e▸⟨_,ho,rfl⟩) h
def Wk(o:AO)(id:cR)(p:Nat)(vs:ae AV)(σ:St)(K:AV->St->Prop):Prop:=match o with
 | .lst xs=>G8 vs λ v=>id="list.append"/\cJ (bB xs.length 1000000) (K .none (σ.put p (.lst (xs++[v]))))
 | .ba bs=>G8 vs λ v=>id="bytearray.append"/\j5 v λ m=>need (0<=m/\m < 256/\bs.length < 1000000) (K .none (σ.put p (.ba (bs++[eC m.toNat]))))
 |_=>False
def tw(id:cR)(a:AV)(vs:ae AV)(σ:St)(K:AV->St->Prop):Prop:=lA a λ p=>pB σ.mem p λ o=>Wk o id p vs σ K
theorem Oj{us:ae am}{adr:au}{ob:Obj}{jj:aC}(hj:jj=true->P.j=true)(R:RF F ct.aR G ρ σ s)(jI:ρ[p]?=af adr)(h1:s.heap.get? adr=af ob)(q:OR G ρ o ob)(qW:bI G ρ vs us)(h:Wk o id p vs σ Kv)(VM:id="bytearray.append"->jj=true):
  WP P F.A (call (.builtin id) (.ref adr::us) []) (PE F ct.aR G ρ Kv) s:=by
 rcases o with xs|_|_|_|_|_|bs|_
 case lst=>exact G8.u (Q:=λ vs=>bI G ρ vs us->WP P F.A (call (.builtin id) (.ref adr::us) []) (PE F ct.aR G ρ Kv) s) h (λ v h qW=>qW.u1 (Q:=λ us=>WP P F.A (call (.builtin id) (.ref adr::us) []) (PE F ct.aR G ρ Kv) s) λ u vu=>h.1▸aD q λ l q=>cJ.u h.2 λ hz hk=>
   X.any (Jl (q.1.plain h1) (λ h' L' sb=>(iX.of L').elim λ o' w=>PE.here (R.rj (vR:= .lst (xs++[v])) (s':={s with heap:=h'}) jI w.1 ⟨l.push u,w.2,Jb.symm▸q.2.append (.cons vu .nil)⟩ (λ b o n e=>sb.extBut b o n e) ⟨rfl,rfl,rfl⟩) VR.none_ hk)
    (aF (aT (bf.symm.trans q.2.length)) (aF (aP hz) (dX.symm▸(by decide:1000000<=16777216)))))) qW
 case ba=>exact G8.u (Q:=λ vs=>bI G ρ vs us->WP P F.A (call (.builtin id) (.ref adr::us) []) (PE F ct.aR G ρ Kv) s) h (λ v h qW=>qW.u1 (Q:=λ us=>WP P F.A (call (.builtin id) (.ref adr::us) []) (PE F ct.aR G ρ Kv) s) λ u vu=>h.1▸h.2.u (Q:=λ u=>WP P F.A (call (.builtin "bytearray.append") [.ref adr,u] []) (PE F ct.aR G ρ Kv) s) vu λ m t hk=>hk.u λ b hk=>
   X.jt (hj (VM h.1)) (H6 ((show ob=nC bs from q)▸h1) b.1 b.2.1 (b9 b.2.2 (dX.symm▸(by decide:1000000 < 16777216))) λ h' e1 e2=>PE.here (R.rj (vR:= .ba _) (s':={s with heap:=h'}) jI e1 rfl e2 ⟨rfl,rfl,rfl⟩) VR.none_ hk)) qW
 all_goals exact h.elim
theorem Oh{u:am}{pl:ie aC}{M:ir}{A:bn}{Q:am×ae am->ar->Prop}(R:RF F ct.aR G ρ σ s)(va:VR G ρ a u)(h:pj Og a σ.mem=af id)(q:Q (.builtin id,[u]) s):aH M A (fD u "append" pl) Q dq s:=
 pj.u (Q:=λ a=>VR G ρ a u->aH M A (fD u "append" pl) Q dq s) h (λ p o e h va=>R.own va e (Q:=λ u=>Q (.builtin id,[u]) s->aH M A (fD u "append" pl) Q dq s) (λ adr ob aa h1 q0 q=>by
  rcases o with xs|_|_|_|_|_|bs|_
  case lst=>exact aD q0 λ vs w=>LZ slot_list_append type_list_append h1 w.1 (ak h▸q)
  case ba=>exact F9 qe xf ((show ob=nC bs from q0)▸h1) (ak h▸q)
  all_goals exact cu h) q) va
end
def vt(t:TV)(s:AS):aq {c:Nat×ae TV // t= .ex (.own c.1)/\gR s.mem c.1=af (.lst c.2)}:=ob (nK t) λ p=>jK (gR s.mem p.1) λ o ho=>ob (oLst o) λ vs=>af ⟨(p.1,vs.1),p.2,ho.trans (ah af vs.2)⟩
theorem GS.lst{s:AS}{σ:St}{t:TV}{a:AV}(gs:GS s σ)(c:{c:Nat×ae TV // t= .ex (.own c.1)/\gR s.mem c.1=af (.lst c.2)})(ga:GV t a){Q:AV->Prop}(k:∀us,bK σ.mem c.1.1=af (.lst us)->dD c.1.2 us->Q (.own c.1.1)):Q a:=
 (ll ga c.2.1).symm▸(gs.vs c.2.2 rfl λ aa z=>z).elim λ us z=>k us z.1 z.2
def Wj(t:TV)(ts:ae TV)(s:AS):aq (ae (TV×AS)):=ob (vt t s) λ c=>ob (yU ts) λ u=>nB (bB c.1.2.length 1000) (af [(.ex .none,s.put c.1.1 (.lst (c.1.2++[u.1])))])
theorem Of{t:TV}{ts:ae TV}{s:AS}{outs:ae (TV×AS)}{a:AV}{vs:ae AV}{σ:St}{q:Prop}(h:Wj t ts s=af outs)(ga:GV t a)(gv:dD ts vs)(gs:GS s σ):D2 (λ K=>tw "list.append" a vs σ K/\(("list.append":cR)="bytearray.append"->q)) GV outs:=
 ob.u h λ c aa h=>ob.u h λ u aa h=>nB.u h λ hz h=>gs.lst c ga (Q:=λ a=>D2 (λ K=>tw "list.append" a vs σ K/\(("list.append":cR)="bytearray.append"->q)) GV outs) λ us m g=>dD.v1 u.2 gv (Q:=λ vs=>D2 (λ K=>tw "list.append" (.own c.1.1) vs σ K/\_) GV outs) λ v gx=>
  D2.one (a:=AV.none) (σ:=σ.put c.1.1 (.lst (us++[v]))) h rfl ⟨gs.loc,gs.mem.set (o:= .lst c.1.2) c.2.2 rfl ⟨_,rfl,g.snoc gx⟩ (.inl rfl)⟩ λ K k=>⟨dF m ⟨rfl,cJ.i (cY (aF (aT g.len) (aF (aP hz) (by decide)))) k⟩,λ h=>bt h (by decide)⟩
theorem Va{α:Type}{id s:cR}{x:aq α}{r:α}{Q:cR->Prop}(h:aY (id==s) x none=af r)(k:x=af r->Q s):Q id:=condB h (λ e h=>(be.mp e).symm▸k h) λ aa h=>cu h
theorem IN{σ:St}{p:Nat}{us:ae AV}(e:bK σ.mem p=af (.lst us)):pj Og (.own p) σ.mem=af "list.append":=CY e
def Wv(jj:aC):Bm P ct where
 name:="append"
 idOf:=pj Og
 lQ:=λ id a vs σ K=>tw id a vs σ K/\(id="bytearray.append"->jj=true)
 jj:=jj
 X6:=λ F G ρ σ s a u id pl Q O R va h q=>Oh R va h q
 snd:=λ F G ρ σ s Kv id a dr u vs hj O R va qW h=>lA.u (Q:=λ a=>VR G ρ a u->WP P F.A (call (.builtin id) (u::vs) []) (PE F ct.aR G ρ Kv) s) h.1 (λ p h' va=>h'.u λ o e h'=>R.own va e (Q:=λ u=>WP P F.A (call (.builtin id) (u::vs) []) (PE F ct.aR G ρ Kv) s) λ adr ob jI h1 q=>Oj hj R jI h1 q qW h' h.2) va
 Z2:=λ t s=>ob (vt t s) λ c=>af ⟨"list.append",λ a σ ga gs=>gs.lst c ga (Q:=λ a=>pj Og a σ.mem=af "list.append") λ us m aa=>IN m⟩
 lf:=λ id t ts s=>aY (id=="list.append") (Wj t ts s) none
 lk:=λ id t ts s outs a vs σ h ga gv gs=>Va (Q:=λ id=>D2 (λ K=>tw id a vs σ K/\(id="bytearray.append"->jj=true)) GV outs) h λ h=>Of h ga gv gs
def Vt(o:SE P ct)(ap:c7)(as:SL P ct)(p:c7)(jj:aC):SE P ct:=xBm (Wv jj) o ap as p
noncomputable def Yw(o:AO):aq cR:=match o with
 | .ba _=>af "bytearray.pop"
 |_=>none
def UG(id:cR)(a:AV)(vs:ae AV)(σ:St)(K:AV->St->Prop):Prop:=lA a λ p=>pB σ.mem p λ o=>CU o λ bs=>Ux vs (id="bytearray.pop"/\need (0 < bs.length/\bs.length < 1000000) (K .any (σ.put p (.ba bs.dropLast))))
theorem He{o:AO}{id:cR}(h:Yw o=af id):"bytearray.pop"=id/\∃bs,o= .ba bs:=by
 rcases o with _|_|_|_|_|_|bs|_
 case ba=>exact⟨ak h,bs,rfl⟩
 all_goals exact cu h
def Wy:Bm P ct where
 name:="pop"
 idOf:=pj Yw
 lQ:=UG
 jj:=true
 X6:=λ F G ρ σ s a u id pl Q O R va h q=>pj.u (Q:=λ a=>VR G ρ a u->aH (aE P.prog P.w) F.A (fD u "pop" pl) Q dq s) h (λ p o e h va=>R.own va e (Q:=λ u=>Q (.builtin id,[u]) s->aH (aE P.prog P.w) F.A (fD u "pop" pl) Q dq s) (λ adr ob aa h1 q0 q=>(He h).2.elim λ bs eo=>
  F9 uv Ds ((show ob=nC bs from(eo▸q0:OR G ρ (.ba bs) ob))▸h1) ((He h).1▸q)) q) va
 snd:=λ F G ρ σ s Kv id a dr u vs hj O R va qW h=>lA.u (Q:=λ a=>VR G ρ a u->WP P F.A (call (.builtin id) (u::vs) []) (PE F ct.aR G ρ Kv) s) h (λ p h' va=>h'.u λ o e h'=>R.own va e (Q:=λ u=>WP P F.A (call (.builtin id) (u::vs) []) (PE F ct.aR G ρ Kv) s) λ adr ob jI h1 q=>CU.u (Q:=λ o=>OR G ρ o ob->WP P F.A (call (.builtin id) (.ref adr::vs) []) (PE F ct.aR G ρ Kv) s) h' (λ bs h' q=>
  Ux.u (Q:=λ dr=>bI G ρ dr vs->WP P F.A (call (.builtin id) (.ref adr::vs) []) (PE F ct.aR G ρ Kv) s) h' (λ h' qW=>qW.u0 (Q:=λ vs=>WP P F.A (call (.builtin id) (.ref adr::vs) []) (PE F ct.aR G ρ Kv) s) (h'.1.symm▸h'.2.u λ b hk=>
   X.jt (hj rfl) (SZ ((show ob=nC bs from q)▸h1) (fQ.mp b.1) (eU (b9 b.2 (dX.symm▸(by decide:1000000 < 16777216)))) λ h' i t e1 e2=>PE.here (R.rj (vR:= .ba _) (s':={s with heap:=h',toks:=s.toks+1}) jI e1 rfl e2 ⟨rfl,rfl,rfl⟩) (show VR G ρ .any (.int i t) from rfl) hk))) qW) q) va
def acV(o:SE P ct)(ap:c7)(as:SL P ct)(p:c7):SE P ct:=xBm Wy o ap as p
def IF(a:AV)(K:ae bX->Prop):Prop:=match a with
 | .kq bs=>K bs
 |_=>False
theorem IF.u{a:AV}{K:ae bX->Prop}{Q:AV->Prop}(h:IF a K)(k:∀bs,K bs->Q (.kq bs)):Q a:=by
 rcases a with _|_|_|_|bs|_|_|_|_|_|_|_|_|_|_|_|_|_
 case kq=>exact k bs h
 all_goals exact h.elim
noncomputable def RD(a:AV)(_:ae AO):aq cR:=match a with
 | .kq _=>af "bytes.count"
 |_=>none
theorem Kr{a:AV}{m:ae AO}{id:cR}(h:RD a m=af id):"bytes.count"=id/\∃bs,a= .kq bs:=by
 rcases a with _|_|_|_|bs|_|_|_|_|_|_|_|_|_|_|_|_|_
 case kq=>exact⟨ak h,bs,rfl⟩
 all_goals exact cu h
def En(id:cR)(a:AV)(vs:ae AV)(σ:St)(K:AV->St->Prop):Prop:=IF a λ bs=>G8 vs λ v=>id="bytes.count"/\j5 v λ m=>need (0<=m/\m < 256) (K (.int (cnt bs.toArray m)) σ)
def Ww:Bm P ct where
 name:="count"
 idOf:=RD
 lQ:=En
 jj:=false
 X6:=λ F G ρ σ s a u id pl Q O R va h q=>have h:=Kr h; h.2.elim λ bs e=>(e▸va:VR G ρ (.kq bs) u).OB (Q:=λ u=>Q (.builtin id,[u]) s->aH (aE P.prog P.w) F.A (fD u "count" pl) Q dq s) (λ t q=>pE (T:="bytes") (gB _ _ _) x4 rh x9 (λ a e=>nomatch e) (h.1▸q)) q
 snd:=λ F G ρ σ s Kv id a dr u vs hj O R va qW h=>IF.u (Q:=λ a=>VR G ρ a u->WP P F.A (call (.builtin id) (u::vs) []) (PE F ct.aR G ρ Kv) s) h (λ bs h va=>va.OB (Q:=λ u=>WP P F.A (call (.builtin id) (u::vs) []) (PE F ct.aR G ρ Kv) s) λ t=>G8.u (Q:=λ dr=>bI G ρ dr vs->WP P F.A (call (.builtin id) (.bytes bs.toArray t::vs) []) (PE F ct.aR G ρ Kv) s) h (λ v h qW=>
  qW.u1 (Q:=λ vs=>WP P F.A (call (.builtin id) (.bytes bs.toArray t::vs) []) (PE F ct.aR G ρ Kv) s) λ w vw=>h.1.symm▸h.2.u (Q:=λ w=>WP P F.A (call (.builtin "bytes.count") [.bytes bs.toArray t,w] []) (PE F ct.aR G ρ Kv) s) vw λ m t' hk=>hk.u λ b hk=>X.any (BH b.1 b.2 (PE.here (R.toks _) VR.mA hk))) qW) va
 Z2:=λ t s=>ob (Ve t) λ c=>af ⟨"bytes.count",λ a σ ga gs=>aD (c.2▸ga:GV (.Ju c.1) a) λ bs e=>e.1.symm▸rfl⟩
 lf:=λ id t ts s=>aY (id=="bytes.count") (ob (Ve t) λ aa=>ob (yU ts) λ u=>ob (lg u.1) λ i=>bE (decide (0<=i.1/\i.1 < 256)) λ aa=>af [(.ai,s)]) none
 lk:=λ id t ts s outs a vs σ h ga gv gs=>Va (Q:=λ id=>D2 (En id a vs σ) GV outs) h λ h=>ob.u h λ c aa h=>ob.u h λ u aa h=>ob.u h λ i aa h=>bE.u h λ hd h=>aD (c.2▸ga:GV (.Ju c.1) a) λ bs e=>e.1.symm▸dD.v1 u.2 gv (Q:=λ vs=>D2 (En "bytes.count" (.kq bs) vs σ) GV outs) λ v gx=>
  D2.one (a:= .int (cnt bs.toArray i.1)) h ⟨_,rfl⟩ gs λ K k=>⟨rfl,(ll gx i.2).symm▸Te (a4 hd) k⟩
def Vv(o:SE P ct)(ap:c7)(as:SL P ct)(p:c7):SE P ct:=xBm Ww o ap as p
def Ag(o:AO)(K:ae (ae Int)->ae AV->Prop):Prop:=match o with
 | .bG ks vs=>K ks vs
 |_=>False
theorem Ag.u{o:AO}{K:ae (ae Int)->ae AV->Prop}{Q:AO->Prop}(h:Ag o K)(k:∀ks vs,K ks vs->Q (.bG ks vs)):Q o:=by
 rcases o with _|_|_|_|_|_|_|_
 case bG=>exact k _ _ h
 all_goals exact h.elim
def lX(a:AV)(mem:ae AO)(K:ae (ae Int)->ae AV->Prop):Prop:=match a with
 | .own p=>pB mem p λ o=>Ag o K
 | .bG ks vs=>K ks vs
 |_=>False
theorem lX.u{a:AV}{mem:ae AO}{K:ae (ae Int)->ae AV->Prop}{Q:AV->Prop}(h:lX a mem K)(k1:∀p ks vs,bK mem p=af (.bG ks vs)->K ks vs->Q (.own p))(k2:∀ks vs,K ks vs->Q (.bG ks vs)):Q a:=by
 rcases a with _|_|_|_|_|p|_|_|_|_|_|_|_|_|_|_|_|⟨ks,vs⟩
 case own=>exact pB.u h λ o e h=>Ag.u (Q:=λ o=>bK mem p=af o->Q (.own p)) h (λ ks vs h e=>k1 p ks vs e h) e
 case bG=>exact k2 ks vs h
 all_goals exact h.elim
section
variable{F:Fd}{G:BM}{ρ:ae au}{σ:St}{s:ar}{a:AV}{v:am}{K:ae (ae Int)->ae AV->Prop}
theorem As(O:gH P ct F)(R:RF F ct.aR G ρ σ s){a:au}(h:a∈ρ):a≠df:=λ e=>(P.I7 _ (R.i7 O)).elim λ o ho=>de (R.rm.fr a h) (e▸ho)
inductive SB(G:BM)(ρ:ae au)(s:ar)(v:am)(K:ae (ae Int)->ae AV->Prop):Prop
 |mk (d:au) (o:Obj) (es:bD bi) (n:Nat) (us:ae am) (ks:ae (ae Int)) (dr:ae AV) (e:v= .ref d) (ho:s.heap.get? d=af o) (hc:o.ExactDict) (ns:d≠df) (hd:o.data= .dict es n) (hk:pw G ks es.toList us) (hv:bI G ρ dr us) (hn:ks.Nodup) (k:K ks dr)
theorem yT(O:gH P ct F)(R:RF F ct.aR G ρ σ s)(va:VR G ρ a v)(h:lX a σ.mem K):SB G ρ s v K:=
 lX.u (Q:=λ a=>VR G ρ a v->SB G ρ s v K) h (λ p ks vs e h va=>R.own va e (Q:=λ v=>SB G ρ s v K) λ d ob hd ho q=>q.2.elim λ es z=>z.elim λ n z=>z.elim λ us z=>⟨d,ob,es,n,us,ks,vs,rfl,ho,q.1,As O R (im hd),z.1,z.2.1,z.2.2.1,z.2.2.2,h⟩)
  (λ ks vs h va=>aD va λ d z=>z.elim λ ob z=>z.elim λ es z=>z.elim λ n z=>z.elim λ us z=>⟨d,ob,es,n,us,ks,vs,z.1,R.rm.kg _ _ z.2.1,z.2.2.1,z.2.2.2.2.2.2.2,z.2.2.2.1,z.2.2.2.2.1,z.2.2.2.2.2.1,z.2.2.2.2.2.2.1,h⟩) va
inductive aag(P:cC)(G:BM)(ρ:ae au)(s:ar)(v:am)(K:ae (ae Int)->ae AV->Prop):Prop
 |mk (d:au) (o:Obj) (xs:ae (ae Int×au×am)) (ks:ae (ae Int)) (dr:ae AV) (e:v= .ref d) (ho:s.heap.get? d=af o) (hc:o.ExactDict) (ns:d≠df) (D:s.heap.DictOfH (g5 (cD P.prog P.w)) d xs) (e1:xs.map (·.1)=ks) (e2:bI G ρ dr (xs.map (·.2.2))) (e3:∀x∈xs,TK G x.1 x.2.1) (k:K ks dr)
theorem lz(O:gH P ct F)(R:RF F ct.aR G ρ σ s)(va:VR G ρ a v)(h:lX a σ.mem K):aag P G ρ s v K:=by
 rcases yT O R va h with⟨d,o,es,n,us,ks,dr,e,ho,hc,ns,hd,hk,hv,hn,k⟩
 exact(hk.rows (prog:=P.prog) (w:=P.w)).elim λ xs z=>⟨d,o,xs,_,_,e,ho,hc,ns,⟨o,es,n,ho,hc,hd,z.2.2.1,λ x hx=>(z.2.2.2 x hx).key R.rm.kg,z.1.symm▸hn⟩,z.1,z.2.1▸hv,z.2.2.2,k⟩
end
noncomputable def Ti(o:AO):aq cR:=match o with
 | .bG _ _=>af "dict.get"
 |_=>none
def getId(a:AV)(mem:ae AO):aq cR:=match a with
 | .bG _ _=>af "dict.get"
 |a=>pj Ti a mem
theorem OM{o:AO}{id:cR}(h:Ti o=af id):"dict.get"=id/\∃ks vs,o= .bG ks vs:=by
 rcases o with _|_|_|_|_|⟨ks,vs⟩|_|_
 case bG=>exact⟨ak h,ks,vs,rfl⟩
 all_goals exact cu h
theorem KY{a:AV}{mem:ae AO}{id:cR}(h:getId a mem=af id):"dict.get"=id/\lX a mem λ aa aa=>True:=by
 rcases a with _|_|_|_|_|p|_|_|_|_|_|_|_|_|_|_|_|⟨ks,vs⟩
 case own=>exact pj.u (a:= .own p) (Q:=λ a=>"dict.get"=id/\lX a mem λ aa aa=>True) h λ p o e h=>have h:=OM h; ⟨h.1,h.2.elim λ aa h=>h.elim λ aa h=>dF e (h▸trivial)⟩
 case bG=>exact⟨ak h,trivial⟩
 all_goals exact cu h
noncomputable def wo(o:aq AV)(d:AV):AV:=match o with
 |some v=>v
 |none=>d
def wu(id:cR)(a:AV)(vs:ae AV)(σ:St)(K:AV->St->Prop):Prop:=id="dict.get"/\lX a σ.mem λ ks us=>match vs with
 |[v]=>CW v λ k=>K (wo (wB ks us k) .none) σ
 |[v,d]=>CW v λ k=>K (wo (wB ks us k) d) σ
 |_=>False
section
variable{G:BM}{ρ:ae au}{n:ae Int}
theorem Cw:∀{ks:ae (ae Int)} {vs:ae AV} {us:ae am},bI G ρ vs us->us.length=ks.length->wB ks vs n=none->py ks n=false
 |[],_,_=>λ aa aa aa=>rfl
 |k::r,[],us=>λ hv l aa=>hv.u0 (Q:=λ us=>us.length=(k::r).length->py (k::r) n=false) (λ l=>bt l.symm (cx _)) l
 |k::r,w::t,us=>λ hv l h=>hv.uc (Q:=λ us=>us.length=(k::r).length->py (k::r) n=false) (λ x xr aa hr l=>by
  cases q:si k n with
  |true=>exact cu (h.symm.trans (u_ q))
  |false=>exact(ah (aY · true (py r n)) q).trans (Cw hr (eG l) ((sH q).symm.trans h))) l
theorem Pz{ks:ae (ae Int)}{vs:ae AV}{xs:ae (ae Int×au×am)}{d:AV}{u:am}(e:xs.map (·.1)=ks)(hv:bI G ρ vs (xs.map (·.2.2)))(hu:VR G ρ d u):VR G ρ (wo (wB ks vs n) d) (((atKey xs n).map (·.2)).getD u):=by
 cases h:wB ks vs n with
 |some v=>exact(GN h e hv).elim λ p z=>z.1.symm▸z.2
 |none=>exact(Option.isSome_eq_false_iff.mp ((wC e).trans (Cw hv (e▸(bJ _).trans (bJ _).symm) h))|>jc.mp).symm▸hu
end
def Y8(t:TV):aq {k:ae Int // ∀v,GV t v->∀K:ae Int->Prop,K k->CW v K}:=M_ t
def Fu:ae (ae Int)->ae TV->ae Int->aq TV:=ES si
theorem Az{d:TV}{e:AV}(gd:GV d e){x:ae Int}:∀{ks:ae (ae Int)} {ts:ae TV} {us:ae AV},dD ts us->ks.length=ts.length->GV ((Fu ks ts x).getD d) (wo (wB ks us x) e)
 |[],[],_=>λ g aa=>g.u0 (Q:=λ us=>GV d (wo (wB [] us x) e)) gd
 |[],_::_,_=>λ aa l=>bt l.symm (cx _)
 |_::_,[],_=>λ aa l=>bt l (cx _)
 |k::ks,t::ts,_=>λ g l=>g.uc (Q:=λ us=>GV ((Fu (k::ks) (t::ts) x).getD d) (wo (wB (k::ks) us x) e)) λ u r gu gr=>by
  cases q:si k x with
  |true=>rw[show Fu (k::ks) (t::ts) x=af t from u_ q,show wB (k::ks) (u::r) x=af u from u_ q]; exact gu
  |false=>rw[show Fu (k::ks) (t::ts) x=Fu ks ts x from sH q,show wB (k::ks) (u::r) x=wB ks r x from sH q]; exact Az gd gr (eG l)
def HA(t:TV)(s:AS):aq {c:ae (ae Int)×ae TV // ∀a σ,GV t a->GS s σ->getId a σ.mem=af "dict.get"/\∃us,dD c.2 us/\∀K:ae (ae Int)->ae AV->Prop,K c.1 us->lX a σ.mem K}:=ob (nK t) λ p=>jK (gR s.mem p.1) λ o ho=>ob (oDct o) λ q=>af ⟨q.1,λ a σ ga gs=>
 (ll ga p.2).symm▸(gs.vs ho q.2 λ aa z=>z).elim λ us z=>⟨CY (f:=Ti) z.1,us,z.2,λ K k=>dF z.1 k⟩⟩
def Xe(t:TV)(ts:ae TV)(s:AS):aq (ae (TV×AS)):=ob (HA t s) λ c=>nB (a_ c.1.1.length c.1.2.length) (oe (ob (yU ts) λ u=>ob (Y8 u.1) λ k=>af [((Fu c.1.1 c.1.2 k.1).getD (.ex .none),s)]) (ob (QX ts) λ u=>ob (Y8 u.1.1) λ k=>af [((Fu c.1.1 c.1.2 k.1).getD u.1.2,s)]))
theorem Pd{t:TV}{ts:ae TV}{s:AS}{outs:ae (TV×AS)}{a:AV}{vs:ae AV}{σ:St}(h:Xe t ts s=af outs)(ga:GV t a)(gv:dD ts vs)(gs:GS s σ):D2 (wu "dict.get" a vs σ) GV outs:=
 ob.u h λ c aa h=>nB.u h λ hl h=>have hl:=aL hl; (c.2 a σ ga gs).2.elim λ us w=>oe.v h (λ h=>ob.u h λ u aa h=>ob.u h λ k aa h=>dD.v1 u.2 gv (Q:=λ vs=>D2 (wu "dict.get" a vs σ) GV outs) λ v gx=>D2.one h (Az (d:= .ex .none) (e:= .none) rfl w.1 hl) gs λ K z=>⟨rfl,w.2 _ (k.2 v gx _ z)⟩)
  λ h=>ob.u h λ u aa h=>ob.u h λ k aa h=>(u.2▸gv:dD [u.1.1,u.1.2] vs).u2 (Q:=λ vs=>D2 (wu "dict.get" a vs σ) GV outs) λ v d gx gd=>D2.one h (Az gd w.1 hl) gs λ K z=>⟨rfl,w.2 _ (k.2 v gx _ z)⟩
theorem Gw{F:Fd}{G:BM}{ρ:ae au}{σ:St}{s:ar}{d:au}{xs:ae (ae Int×au×am)}{ks:ae (ae Int)}{us:ae AV}(O:gH P ct F)(R:RF F ct.aR G ρ σ s)(ns:d≠df)(D:s.heap.DictOfH (g5 (cD P.prog P.w)) d xs)(e1:xs.map (·.1)=ks)(e2:bI G ρ us (xs.map (·.2.2)))
  {Q:Prop} (k:(g5 (cD P.prog P.w)).room F.A.in1->(d==df)=false->(∀{k ka},TK G k ka->(g5 (cD P.prog P.w)).is s.heap k ka)->(∀{k:ae Int} {d:AV} {u:am},VR G ρ d u->VR G ρ (wo (wB ks us k) d) (((atKey xs k).map (·.2)).getD u))->Q):Q:=
 k (aS (fC (bq _ _) 1) (ff (f5 O.room.2.1) (by decide))) (d9.mpr ns) (λ tk=>tk.key R.rm.kg) λ hu=>Pz e1 e2 hu
def Wx:Bm P ct where
 name:="get"
 idOf:=getId
 lQ:=wu
 jj:=false
 X6:=λ F G ρ σ s a u id pl Q O R va h q=>by
  have h:=KY h
  rcases lz O R va h.2 with⟨d,ob,xs,ks,dr,rfl,ho,hc,_⟩
  exact pE ⟨ob,ho,hc.1⟩ PySem.F.plainAttrs_dict pu PySem.F.type_dict_get (λ a e=>vG e▸⟨ob,ho,hc.2.1⟩) (h.1▸q)
 snd:=λ F G ρ σ s Kv id a dr u vs hj O R va qW h=>by
  obtain⟨rfl,h⟩:=h
  rcases lz O R va h with⟨d,ob,xs,ks,us,rfl,ho,hc,ns,D,e1,e2,e3,h⟩
  refine Gw O R ns D e1 e2 λ room A4 key all=>?_
  rcases dr with _|⟨v,_|⟨e,_|_⟩⟩
  ·exact h.elim
  ·exact qW.u1 (Q:=λ vs=>WP P F.A (call (.builtin "dict.get") (.ref d::vs) []) (PE F ct.aR G ρ Kv) s) λ w vw=>(sM vw h).elim λ k z=>z.elim λ ka z=>z.1.symm▸X.any (call_meetsIn pu D.typeIs zj (PySem.F.args_dict_get_2 _ _) (meetsH_dict_get (g5 (cD P.prog P.w)) d ka A4) ⟨room,k,xs,key z.2.1,D,PE.toks R (all VR.none_) z.2.2⟩)
  ·exact qW.u2 (Q:=λ vs=>WP P F.A (call (.builtin "dict.get") (.ref d::vs) []) (PE F ct.aR G ρ Kv) s) λ w y vw vy=>(sM vw h).elim λ k z=>z.elim λ ka z=>z.1.symm▸X.any (call_meetsIn pu D.typeIs zj (PySem.F.args_dict_get_3 _ _ _) (meetsH_dict_get_default (g5 (cD P.prog P.w)) d ka A4 y) ⟨room,k,xs,key z.2.1,D,PE.toks R (all vy) z.2.2⟩)
  ·exact h.elim
 Z2:=λ t s=>ob (HA t s) λ c=>af ⟨"dict.get",λ a σ ga gs=>(c.2 a σ ga gs).1⟩
 lf:=λ id t ts s=>aY (id=="dict.get") (Xe t ts s) none
 lk:=λ id t ts s outs a vs σ h ga gv gs=>Va (Q:=λ id=>D2 (wu id a vs σ) GV outs) h λ h=>Pd h ga gv gs
def Zu(o:SE P ct)(ap:c7)(as:SL P ct)(p:c7):SE P ct:=xBm Wx o ap as p
end
section
variable{P:cC}{ct:Ct}
noncomputable def Zs(b:aC)(k:Nat)(p:c7):SE P ct where
 bA:= .Constant (.bool b) k p
 run:=λ σ K=>K (.bool b) σ
 b_:=true
 star:=λ aa aa=>rfl
 ok:=λ aa F G ρ σ s Kv aa R h=>X.any<|wpAny_Constant_bool (PE.here R VR.Ki h)
 ab:=λ s=>af [(.ex (.bool b),s)]
 cN:=λ aa s outs h σ gs=>D2.one h rfl gs λ aa k=>k
noncomputable def acW(x:bM)(k:Nat)(p:c7):SE P ct where
 bA:= .Constant (.str x) k p
 run:=λ σ K=>K .any σ
 b_:=true
 star:=λ aa aa=>rfl
 ok:=λ aa F G ρ σ s Kv aa R h=>X.any<|wpAny_Constant_str (PE.here (R.toks _) (show VR _ _ .any (.str x _) from rfl) h)
 ab:=λ s=>af [(.ex .any,s)]
 cN:=λ aa s outs h σ gs=>D2.one h rfl gs λ aa k=>k
noncomputable def acQ(x:ae bX)(k:Nat)(p:c7):SE P ct where
 bA:= .Constant (.bytes x) k p
 run:=λ σ K=>K (.kq x) σ
 b_:=true
 star:=λ aa aa=>rfl
 ok:=λ aa F G ρ σ s Kv aa R h=>λ aa aa aa aa=>PE.toks R VR.Rz h
theorem Tk{G:BM}{ρ:ae au}:∀{t:aC},OR G ρ (aY t (.bG [] []) (.iM [] [])) {cls:= .type "dict",data:= .dict #[]}
 |true=>vB ⟨rfl,rfl,rfl⟩ ⟨#[],_,[],rfl,⟨rfl,rfl⟩,bI.nil,f8⟩
 |false=>vB ⟨rfl,rfl,rfl⟩ ⟨#[],_,[],rfl,⟨rfl,rfl⟩,bI.nil,f8⟩
theorem KC{m:ae AO}:∀{t:aC},GO m (aY t (.bG [] []) (.iM [] [])) (aY t (.bG [] []) (.iM [] []))/\l9 (aY t (.bG [] []) (.iM [] []))=none
 |true=>⟨⟨[],rfl,rfl⟩,rfl⟩
 |false=>⟨⟨[],rfl,rfl⟩,rfl⟩
noncomputable def Vw(t:aC)(p:c7):SE P ct where
 bA:= .Dict [] [] p
 run:=λ σ K=>K (.own σ.mem.length) ⟨σ.loc,σ.mem++[aY t (.bG [] []) (.iM [] [])]⟩
 b_:=true
 star:=λ aa aa=>rfl
 ok:=λ aa F G ρ σ s Kv aa R h=>X.any<|by
  rw[eval_Dict_empty]
  exact aj (hV (cO (PE.E1 (s':={s with heap:=s.heap.push {cls:= .type "dict",data:= .dict #[]}}) R R.K0 (aN _ rfl) Tk (λ b o e=>aA _ e) ⟨rfl,rfl,rfl⟩ h)))
 ab:=λ s=>af [(.ex (.own s.mem.length),⟨s.loc,s.mem++[aY t (.bG [] []) (.iM [] [])]⟩)]
 cN:=λ aa s outs h σ gs=>D2.one (a:=AV.own σ.mem.length) (σ:=⟨σ.loc,σ.mem++[aY t (.bG [] []) (.iM [] [])]⟩) h (ah AV.own gs.mem.len.symm) ⟨gs.loc,gs.mem.app (KC (m:=σ.mem)).1 (KC (m:=σ.mem)).2⟩ λ K k=>k
def abN(o:AO)(K:ae AV->Prop):Prop:=match o with
 | .lst xs=>K xs
 | .il ns=>K (bU ns)
 |_=>False
def m7(a:AV)(mem:ae AO)(K:ae AV->Prop):Prop:=match a with
 | .own p=>pB mem p λ o=>abN o K
 | .lst xs=>K xs
 | .row ns=>K (bU ns)
 |_=>False
theorem m7.u{F:Fd}{aR:ae bM}{G:BM}{ρ:ae au}{σ:St}{s:ar}{a:AV}{v:am}{K:ae AV->Prop}{Q:am->Prop}(h:m7 a σ.mem K)(R:RF F aR G ρ σ s)(va:VR G ρ a v)(k:∀l o vs xs,s.heap.get? l=af o->iX o vs->bI G ρ xs vs.toList->K xs->Q (.ref l)):Q v:=by
 rcases a with _|_|_|_|_|p|_|_|_|_|_|xs|ns|_|_|_|_|_
 case own=>
  exact pB.u h λ o e h=>R.own va e (Q:=Q) λ adr ob aa h1 q=>by
   rcases o with xs|ns|_|_|_|_|_|_
   case lst=>exact aD q λ us q=>k adr ob us xs h1 q.1 q.2 h
   case il=>exact aD q λ us q=>k adr ob us _ h1 q.1 (oN q.2) h
   all_goals exact h.elim
 case lst=>exact va.lstU (Q:=Q) λ l o us hg hl hv=>k l o us xs (R.rm.kg _ _ hg) hl hv h
 case row=>exact va.C8 (Q:=Q) λ l o us hg hl hv=>k l o us _ (R.rm.kg _ _ hg) hl (oN hv) h
 all_goals exact h.elim
noncomputable def D3:ae AV->ae AV->ae AV
 |[],ys=>ys
 |x::xs,ys=>x::D3 xs ys
theorem zs:∀xs ys:ae AV,D3 xs ys=xs++ys
 |[],_=>rfl
 |x::xs,ys=>ah (x::·) (zs xs ys)
noncomputable def wQ(xs:ae AV):Nat->ae AV
 |0=>[]
 |n+1=>D3 xs (wQ xs n)
noncomputable def PM(xs:ae AV):AO:=match intsOf xs with
 |some ns=> .il ns
 |none=> .lst xs
theorem Ur{G:BM}{ρ:ae au}{xs:ae AV}{o:Obj}{vs:bD am}(hl:iX o vs)(hv:bI G ρ xs vs.toList):OR G ρ (PM xs) o:=by
 unfold PM
 cases h:intsOf xs with
 |some ns=>exact⟨vs,hl,n6 h hv⟩
 |none=>exact⟨vs,hl,hv⟩
section
variable{F:Fd}{G:BM}{ρ:ae au}{σ:St}{s:ar}{Kv:AV->St->Prop}{a b:AV}{u v:am}{xs ys:ae AV}{vs us:bD am}{op:cF}
theorem Ha{aR:ae bM}(R:RF F aR G ρ σ s)(hv:bI G ρ xs vs.toList)(h:Kv (.own σ.mem.length) ⟨σ.loc,σ.mem++[PM xs]⟩):PE F aR G ρ Kv (.ref s.heap.objs.size) {s with heap:=s.heap.push {cls:= .type "list",data:= .seq vs}}:=
 PE.E1 (s':={s with heap:=s.heap.push {cls:= .type "list",data:= .seq vs}}) R R.K0 (aN _ rfl) (Ur ⟨_,rfl⟩ (bI.up (dC.refl _) (Ext.snoc _ _) _ hv)) (λ b o e=>aA _ e) ⟨rfl,rfl,rfl⟩ h
def Ow(op:cF)(a b:AV)(σ:St)(K:AV->St->Prop):Prop:=match op with
 | .Add=>m7 a σ.mem λ xs=>m7 b σ.mem λ ys=>cJ (bB xs.length 1000&&bB ys.length 1000) (K (.own σ.mem.length) ⟨σ.loc,σ.mem++[PM (D3 xs ys)]⟩)
 | .Mult=>m7 a σ.mem λ xs=>j5 b λ n=>need (0<=n/\n < 1000/\xs.length < 1000) (K (.own σ.mem.length) ⟨σ.loc,σ.mem++[PM (wQ xs n.toNat)]⟩)
 |_=>False
def BD(op:cF)(a b:AV)(σ:St)(K:AV->St->Prop):Prop:=match a with
 | .int i=>j5 b λ j=>binI op i j λ r=>K (.int r) σ
 |a=>Ow op a b σ K
theorem foldl_rep(xs:bD am):∀(n:Nat) (acc:bD am),(Jc (λ x1 x2=>x1++x2) acc (eO n xs)).toList=acc.toList++(eO n xs.toList).flatten
 |0,acc=>(bQ _).symm
 |n+1,acc=>(foldl_rep xs n (acc++xs)).trans ((ah (·++_) me).trans (gO ..))
theorem MC{xs:ae AV}{vs:ae am}(h:bI G ρ xs vs):∀n:Nat,bI G ρ (wQ xs n) (eO n vs).flatten
 |0=>bI.nil
 |n+1=>show bI G ρ (D3 xs (wQ xs n)) (vs++(eO n vs).flatten) from(zs xs (wQ xs n)).symm▸h.append (MC h n)
theorem PP{prog:aK}{w:bw}{A:bn}{l:au}{items:bD am}{k:Nat}{x:Int}{u:j_}{Q:am->ar->Prop}
  (hl:s.heap.get? l=af {cls:= .type "list",dict:=none,data:= .seq items k,slots:=#[]}) (hlo:0<=x) (hhi:x < 1000) (hsz:items.size < 1000)
  (h:Q (.ref s.heap.objs.size) {s with heap:=s.heap.push {cls:= .type "list",data:= .seq (Jc (λ x1 x2=>x1++x2) #[] (eO (if items.isEmpty=true then 0 else x.toNat) items))}}):
  aH (aE prog w) A (kM .Mult (.ref l) (.int x u)) Q dq s:=by
 have hm:items.size * x.toNat<=2 ^ 24:=aF (Nat.mul_le_mul (eU hsz) (show x.toNat<=1000 by omega)) (by decide)
 exact wpAny_binaryOp_repeat_ref (T:="list") (U:="int") (by decide) ⟨_,hl,rfl⟩ (λ s'=>mu s' x u) noFill_list_mul F.fills_int_mul F.slot_int_rmul repeat_list F.slot_int_index.lookup
  (call_meets F.slot_int_rmul (mu s x u) F.entry_int_rmul (F.args_int_rmul_2 _ _) (int___rmul___int_list x u l items k)
   ⟨hl,rfl,⟨_,hl,rfl⟩,call_meets F.slot_list_mul ⟨_,hl,rfl⟩ F.entry_list_mul (F.args_list_mul_2 _ _)
    (AutoListH.list___mul___list_int_3 l items k x u (by simp [Builtin.List.listFitsIndex]; omega) (by omega) (by simp [Builtin.List.listTooLong,f6]; omega))
    ⟨hl,h⟩⟩)
theorem C6:∀n:Nat,wQ [] n=[]
 |0=>rfl
 |n+1=>C6 n
theorem YC{n:Nat}(hv:bI G ρ xs us.toList):bI G ρ (wQ xs n) (Jc (λ x1 x2=>x1++x2) #[] (eO (if us.isEmpty=true then 0 else n) us)).toList:=by
 rw[foldl_rep]
 by_cases he:us.isEmpty=true
 ·rw[dj he]
  cases Array.isEmpty_iff.mp he
  cases cX.mp hv.length.symm
  exact(ah (bI G ρ · []) (C6 n)).mpr bI.nil
 ·rw[bC he]
  exact MC hv n
theorem mZ(hv:bI G ρ xs us.toList):us.size=xs.length:=bf.symm.trans hv.length
theorem D9(R:RF F ct.aR G ρ σ s)(va:VR G ρ a u)(vb:VR G ρ b v)(h:Ow op a b σ Kv):aH (aE P.prog P.w) F.A (kM op u v) (PE F ct.aR G ρ Kv) dq s:=by
 cases op
 case Add=>
  exact m7.u (Q:=λ u=>aH (aE P.prog P.w) F.A (kM .Add u v) (PE F ct.aR G ρ Kv) dq s) h R va λ l o us xs ho lo hv h=>lo.elim λ n e=>h.u (Q:=λ v=>aH (aE P.prog P.w) F.A (kM .Add (.ref l) v) (PE F ct.aR G ρ Kv) dq s) R vb λ l2 o2 ws ys T1 lo2 hw h=>lo2.elim λ n2 e2=>h.u λ hz h=>
   PySem.P.add_list (n:=n) (n2:=n2) (ho.trans (ah af e)) (T1.trans (ah af e2)) (Ha R (xs:=D3 xs ys) (vs:=us++ws) ((zs xs ys).symm▸me.symm▸hv.append hw) h)
    (aF (Nat.add_le_add (mZ hv▸aP (aG hz).1) (mZ hw▸aP (aG hz).2)) (dX.symm▸(by decide:1000+1000<=16777216)))
 case Mult=>
  exact m7.u (Q:=λ u=>aH (aE P.prog P.w) F.A (kM .Mult u v) (PE F ct.aR G ρ Kv) dq s) h R va λ l o us xs ho lo hv h=>lo.elim λ n e=>h.u (Q:=λ v=>aH (aE P.prog P.w) F.A (kM .Mult (.ref l) v) (PE F ct.aR G ρ Kv) dq s) vb λ i t h=>h.u λ hb h=>
   PP (ho.trans (ah af e)) hb.1 hb.2.1 (mZ hv▸hb.2.2) (Ha R (xs:=wQ xs i.toNat) (YC hv) h)
 all_goals exact h.elim
theorem P5(h:BD op a b σ Kv){Q:AV->Prop}(k:∀i,(j5 b λ j=>binI op i j λ r=>Kv (.int r) σ)->Q (.int i))(k':Ow op a b σ Kv->Q a):Q a:=by
 rcases a with _|_|_|i|_|_|_|_|_|_|_|_|_|_|_|_|_|_
 case int=>exact k i h
 all_goals exact k' h
theorem D_(R:RF F ct.aR G ρ σ s)(va:VR G ρ a u)(vb:VR G ρ b v)(h:BD op a b σ Kv):aH (aE P.prog P.w) F.A (kM op u v) (PE F ct.aR G ρ Kv) dq s:=
 P5 h (Q:=λ a=>VR G ρ a u->aH (aE P.prog P.w) F.A (kM op u v) (PE F ct.aR G ρ Kv) dq s) (λ i h va=>va.iu (Q:=λ u=>aH (aE P.prog P.w) F.A (kM op u v) (PE F ct.aR G ρ Kv) dq s) λ t=>h.u (Q:=λ v=>aH (aE P.prog P.w) F.A (kM op (.int i t) v) (PE F ct.aR G ρ Kv) dq s) vb λ j t' h=>D8 R h) (λ h va=>D9 R va vb h) va
end
theorem Ck:∀l:ae Int,intsOf (bU l)=af l
 |[]=>rfl
 |i::r=>Cm rfl (Ck r)
theorem C7(c:Int):∀n:Nat,wQ [.int c] n=bU (eO n c)
 |0=>rfl
 |n+1=>ah (AV.int c::·) (C7 c n)
noncomputable def UN(c:Int):Nat->ae (Int×Int)
 |0=>[]
 |n+1=>(c,c)::UN c n
theorem Hj(c:Int):∀n,qZ (UN c n) (eO n c)
 |0=>rfl
 |n+1=>qZ.cons (q:=(c,c)) (dR _) (dR _) (Hj c n)
def Qg(c:Int)(n:Nat):TO:=aY (bB n 8) (.il (UN c n)) (.zX n c c)
theorem Hi(m:ae AO)(c:Int)(n:Nat):GO m (Qg c n) (.il (eO n c))/\l9 (Qg c n)=none:=by
 unfold Qg
 cases bB n 8 with
 |true=>exact⟨⟨_,rfl,Hj c n⟩,rfl⟩
 |false=>exact⟨⟨_,rfl,List.length_replicate,λ x hx=>(List.eq_of_mem_replicate hx).symm▸⟨dR _,dR _⟩⟩,rfl⟩
noncomputable def one?(l:ae TV):aq {c:Int // l=[.ex (.int c)]}:=match l with
 |[.ex (.int c)]=>af ⟨c,rfl⟩
 |_=>none
noncomputable def isMul(op:cF):aq {u:e7 // op= .Mult}:=match op with
 | .Mult=>af ⟨(),rfl⟩
 |_=>none
theorem PO(c:Int)(n:Nat):PM (wQ [.int c] n)= .il (eO n c):=by unfold PM; rw[C7,Ck]
def We(op:cF)(t u:TV)(s:AS):aq (ae (TV×AS)):=ob (isMul op) λ aa=>ob (vt t s) λ c=>ob (one? c.1.2) λ x=>ob (lg u) λ n=>nB (decide (0<=n.1/\n.1 < 1000)) (af [(.ex (.own s.mem.length),⟨s.loc,s.mem++[Qg x.1 n.1.toNat]⟩)])
theorem Oa{op:cF}{t u:TV}{s:AS}{outs:ae (TV×AS)}{a b:AV}{σ:St}(h:We op t u s=af outs)(ga:GV t a)(gb:GV u b)(gs:GS s σ):D2 (BD op a b σ) GV outs:=
 ob.u h λ m aa h=>ob.u h λ c aa h=>ob.u h λ x aa h=>ob.u h λ n aa h=>nB.u h λ hn h=>m.2▸(ll gb n.2).symm▸gs.lst c ga (Q:=λ a=>D2 (BD .Mult a (.int n.1) σ) GV outs) λ us m1 g=>(x.2▸g:dD [.ex (.int x.1)] us).u1 (Q:=λ us=>bK σ.mem c.1.1=af (.lst us)->D2 (BD .Mult (.own c.1.1) (.int n.1) σ) GV outs) (λ v gv m1=>
  have gv:v= .int x.1:=gv
  D2.one (a:=AV.own σ.mem.length) (σ:=⟨σ.loc,σ.mem++[.il (eO n.1.toNat x.1)]⟩) h (ah AV.own gs.mem.len.symm) ⟨gs.loc,gs.mem.app (Hi σ.mem x.1 n.1.toNat).1 (Hi σ.mem x.1 n.1.toNat).2⟩ λ K k=>dF (m1.trans (ah (λ v=>af (AO.lst [v])) gv))
   (Te ⟨(a4 hn).1,(a4 hn).2,(by decide:1 < 1000)⟩ ((PO x.1 n.1.toNat).symm▸k))) m1
def LW(a:AV)(m:ae AO):aq {xs:ae AV // ∀K:ae AV->Prop,K xs->m7 a m K}:=match a with
 | .own p=>jK (bK m p) λ o ho=>match o,ho with
  | .lst xs,ho=>af ⟨xs,λ K z=>dF ho z⟩
  | .il ns,ho=>af ⟨bU ns,λ K z=>dF ho z⟩
  |_,_=>none
 | .row ns=>af ⟨bU ns,λ K z=>z⟩
 | .lst xs=>af ⟨xs,λ K z=>z⟩
 |_=>none
noncomputable def abx(a:AV):aq {i:Int // a= .int i}:=match a with
 | .int i=>af ⟨i,rfl⟩
 |_=>none
def Ev(op:cF)(a b:AV)(σ:St):aq {r:AV×St // tv (Ow op a b σ) r}:=match op with
 | .Add=>ob (LW a σ.mem) λ xs=>ob (LW b σ.mem) λ ys=>bE (bB xs.1.length 1000&&bB ys.1.length 1000) λ h=>af ⟨(.own σ.mem.length,⟨σ.loc,σ.mem++[PM (D3 xs.1 ys.1)]⟩),λ K z=>xs.2 _ (ys.2 _ (cJ.i h z))⟩
 | .Mult=>ob (LW a σ.mem) λ xs=>ob (abx b) λ n=>bE (decide (0<=n.1/\n.1 < 1000/\xs.1.length < 1000)) λ h=>af ⟨(.own σ.mem.length,⟨σ.loc,σ.mem++[PM (wQ xs.1 n.1.toNat)]⟩),λ K z=>xs.2 _ (n.2.symm▸Te (a4 h) z)⟩
 |_=>none
def WZ(op:cF)(a b:AV)(σ:St):aq {r:AV×St // tv (BD op a b σ) r}:=match a with
 | .own p=>Ev op (.own p) b σ
 | .row p=>Ev op (.row p) b σ
 | .lst p=>Ev op (.lst p) b σ
 |_=>none
def Rj(op:cF)(t u:TV)(s:AS):aq (ae (TV×AS)):=oe (JQ op t u s) (oe (We op t u s) (ex2 (WZ op) t u s))
theorem Ox{op:cF}{t u:TV}{s:AS}{outs:ae (TV×AS)}{a b:AV}{σ:St}(h:Rj op t u s=af outs)(ga:GV t a)(gb:GV u b)(gs:GS s σ):D2 (BD op a b σ) GV outs:=by
 rcases sK h with h|h
 ·rcases sK h with h|h
  ·obtain⟨i,j,rfl,rfl,z⟩:=Bs h ga gb gs; exact z
  rcases sK h with h|h
  ·obtain⟨i,j,rfl,rfl,z⟩:=Bt h ga gb gs; exact z
  ·have z:=Br h ga gb gs
   obtain⟨_,_,h⟩:=Mf h
   obtain⟨p,_,h⟩:=Mf h
   obtain⟨q,_,h⟩:=Mf h
   obtain⟨i,rfl⟩:=p.2 _ ga
   obtain⟨j,rfl⟩:=q.2 _ gb
   exact z
 ·exact oe.v h (λ h=>Oa h ga gb gs) λ h=>Tu _ _ _ _ _ _ _ h ga gb gs
def Nu(l:SE P ct)(op:cF)(r:SE P ct)(p:c7):SE P ct where
 bA:= .BinOp l.bA op r.bA p
 run:=λ σ K=>l.run σ λ a aI=>r.run aI λ b aU=>BD op a b aU K
 b_:=l.b_&&r.b_
 star:=λ aa aa=>rfl
 ok:=λ c F G ρ σ s Kv O R h=>X.BinOp (SE.then l r (aG c).1 (aG c).2 O R h λ G' ρ' a b u v bZ s' g x R' va vb k=>Cu g x (D_ R' va vb k))
 ab:=Rq l.ab r.ab (Rj op)
 cN:=λ fo=>rK fo λ t u s outs a b σ h ga gb gs=>Ox h ga gb gs
end
mutual
noncomputable def dep:AV->Nat
 | .tup xs=>zH xs+1
 | .lst xs=>zH xs+1
 | .row _=>1
 | .int _=>0
 |_=>0
noncomputable def zH:ae AV->Nat
 |[]=>0
 |x::r=>max (dep x) (zH r)
end
mutual
noncomputable def plainT:AV->aC
 | .tup xs=>oX xs
 | .lst xs=>oX xs
 | .row _=>true
 | .int _=>true
 |_=>false
noncomputable def oX:ae AV->aC
 |[]=>true
 |x::r=>plainT x&&oX r
end
section
open SeqAt
variable{G:BM}{ρ:ae au}{s:ar}{A:bn}{a b:au}{vs ws:bD am}
theorem px.isTup{h:Heap}{a:au}{o:Obj}{vs:bD am}(ho:h.get? a=af o)(t:px o vs):h.IsTuple a vs:=⟨o,ho,t.1,t.2⟩
theorem all_true{n:Nat}{e:Nat->aC}(h:∀j,j < n->e j=true):(eu n).all e=true:=bj.mpr λ j hj=>h j (qX.mp hj)
noncomputable abbrev oE(A:bn)(s:ar)(us vs:ae am):Prop:=∀(j:Nat) (u v:am),us[j]?=af u->vs[j]?=af v->EqAt A s u v true
theorem oE.cons{u v:am}{us vs:ae am}(h:EqAt A s u v true)(k:oE A s us vs):oE A s (u::us) (v::vs):=λ j x y=>match j with
 |0=>λ e e'=>ak e▸ak e'▸h
 |j+1=>k j x y
theorem oE.arr(k:oE A s vs.toList ws.toList)(j:Nat)(h1:j < vs.size)(h2:j < ws.size):EqAt A s vs[j] ws[j] ((λ aa=>true) j):=k j _ _ (bL.trans (eX h1)) (bL.trans (eX h2))
theorem L0(h1:s.heap.IsList a vs)(h2:s.heap.IsList b ws)(e:vs.size=ws.size)(hA:A.units < qI)(k:oE A.in1 s vs.toList ws.toList):RcAt A s (.ref a) (.ref b) true:=all_true (n:=vs.size) (e:=λ aa=>true) (λ aa aa=>rfl)▸RcAt.lists (e:=λ aa=>true) h1 h2 e hA k.arr
theorem LY(h1:s.heap.IsList a vs)(h2:s.heap.IsList b ws)(e:vs.size=ws.size)(hA:A.units < qI)(k:oE A.in1 s vs.toList ws.toList):EqAt A s (.ref a) (.ref b) true:=
 (d0 (a=b)).elim (λ h=>h▸EqAt.same _) λ h=>EqAt.of_refs h (L0 h1 h2 e hA k)
theorem Vl(h1:s.heap.IsTuple a vs)(h2:s.heap.IsTuple b ws)(e:vs.size=ws.size)(hA:A.units < qI)(k:oE A.in1 s vs.toList ws.toList):EqAt A s (.ref a) (.ref b) true:=
 (d0 (a=b)).elim (λ h=>h▸EqAt.same _) λ h=>EqAt.of_refs h ((cz.mpr ⟨all_true λ aa aa=>rfl,be.mpr e⟩:((eu (min vs.size ws.size)).all (λ aa=>true)&&vs.size==ws.size)=true)▸RcAt.tuples (e:=λ aa=>true) h1 h2 hA k.arr)
theorem Ln{i:Int}{t t':j_}:EqAt A s (.int i t) (.int i t') true:=(qK i:(i==i)=true)▸EqAt.int_int i t i t'
theorem Gz:∀{ns:ae Int} {us vs:ae am},cw ns us->cw ns vs->oE A s us vs
 |[],_,_=>λ h aa=>h.u0 (Q:=λ us=>oE A s us _) λ aa aa aa e=>cu e
 |n::r,us,vs=>λ h k=>h.uc (Q:=λ us=>oE A s us vs) λ t us h=>k.uc (Q:=λ vs=>oE A s (.int n t::us) vs) λ t' vs k=>oE.cons Ln (Gz h k)
theorem Ni{n d:Nat}(h:n+(d+1) < qI):n+1+d < qI:=aS (aT (cT n 1 d)) h
theorem Nj{n d:Nat}(h:n+d < qI):n < qI:=aS (bq _ _) h
theorem Hx{xs:ae AV}(h:bI G ρ xs vs.toList)(k:bI G ρ xs ws.toList):vs.size=ws.size:=bf.symm.trans ((h.length.trans k.length.symm).trans bf)
mutual
theorem QT(kg:∀a o,G a=af o->s.heap.get? a=af o):∀(t:AV) (A:bn) {u v:am},plainT t=true->A.units+dep t < qI->VR G ρ t u->VR G ρ t v->EqAt A s u v true
 | .int i,A,u,v=>λ aa aa hu hv=>hu.iu (Q:=λ u=>EqAt A s u v true) λ t=>hv.iu (Q:=λ v=>EqAt A s (.int i t) v true) λ t'=>Ln
 | .row ns,A,u,v=>λ aa hA hu hv=>hu.C8 (Q:=λ u=>EqAt A s u v true) λ a o vs g1 l1 r1=>hv.C8 (Q:=λ v=>EqAt A s (.ref a) v true) λ b o' ws g2 l2 r2=>LY ⟨o,kg _ _ g1,l1.is⟩ ⟨o',kg _ _ g2,l2.is⟩ (bf.symm.trans ((r1.length.trans r2.length.symm).trans bf)) (Nj hA) (Gz r1 r2)
 | .lst xs,A,u,v=>λ hp hA hu hv=>hu.lstU (Q:=λ u=>EqAt A s u v true) λ a o vs g1 l1 r1=>hv.lstU (Q:=λ v=>EqAt A s (.ref a) v true) λ b o' ws g2 l2 r2=>LY ⟨o,kg _ _ g1,l1.is⟩ ⟨o',kg _ _ g2,l2.is⟩ (Hx r1 r2) (Nj hA) (s4 kg xs A.in1 hp (Ni hA) r1 r2)
 | .tup xs,A,u,v=>λ hp hA hu hv=>hu.I8 (Q:=λ u=>EqAt A s u v true) λ a o vs g1 l1 r1=>hv.I8 (Q:=λ v=>EqAt A s (.ref a) v true) λ b o' ws g2 l2 r2=>Vl (l1.isTup (kg _ _ g1)) (l2.isTup (kg _ _ g2)) (Hx r1 r2) (Nj hA) (s4 kg xs A.in1 hp (Ni hA) r1 r2)
 | .undef,_,_,_=>λ h=>ay h
 | .none,_,_,_=>λ h=>ay h
 | .bool _,_,_,_=>λ h=>ay h
 | .kq _,_,_,_=>λ h=>ay h
 | .own _,_,_,_=>λ h=>ay h
 | .val _,_,_,_=>λ h=>ay h
 | .fn _,_,_,_=>λ h=>ay h
 | .ly _,_,_,_=>λ h=>ay h
 | .oH _,_,_,_=>λ h=>ay h
 | .inst _ _ _,_,_,_=>λ h=>ay h
 | .any,_,_,_=>λ h=>ay h
 | .j6 _ _ _,_,_,_=>λ h=>ay h
 | .iM _ _,_,_,_=>λ h=>ay h
 | .bG _ _,_,_,_=>λ h=>ay h
theorem s4(kg:∀a o,G a=af o->s.heap.get? a=af o):∀(xs:ae AV) (A:bn) {us vs:ae am},oX xs=true->A.units+zH xs < qI->bI G ρ xs us->bI G ρ xs vs->oE A s us vs
 |[],A,us,vs=>λ aa aa h aa=>h.u0 (Q:=λ us=>oE A s us vs) λ aa aa aa e=>cu e
 |x::r,A,us,vs=>λ hp hA h k=>h.uc (Q:=λ us=>oE A s us vs) λ u us h1 h2=>k.uc (Q:=λ vs=>oE A s (u::us) vs) λ v vs k1 k2=>oE.cons (QT kg x A (aG hp).1 (aS (hF (Nat.le_max_left _ _) _) hA) h1 k1)
  (s4 kg r A (aG hp).2 (aS (hF (Nat.le_max_right _ _) _) hA) h2 k2)
end
end
section
open SeqAt
variable{P:cC}{ct:Ct}
def Gf(ne:aC)(a b:AV)(mem:ae AO)(K:aC->Prop):Prop:=m7 a mem λ xs=>m7 b mem λ ys=>
 (xs=ys/\oX xs=true/\zH xs < 30/\K (!ne))\/(xs.length≠ys.length/\K ne)
section
variable{F:Fd}{G:BM}{ρ:ae au}{σ:St}{s:ar}{a b:AV}{u v:am}{Q:am->ar->Prop}{K:aC->Prop}
theorem gH.un(O:gH P ct F){d:Nat}(h:d < 100):F.A.units+d < qI:=ff (Nat.add_lt_add (aS (bq _ _) O.room.2.1) h) (by decide)
theorem ug{ne:aC}(O:gH P ct F)(R:RF F ct.aR G ρ σ s)(va:VR G ρ a u)(vb:VR G ρ b v)(h:Gf ne a b σ.mem K)(q:∀c,K c->Q (.bool c) s):aH (aE P.prog P.w) F.A (dw (aY ne .NotEq .Eq) u v) Q dq s:=
 m7.u (Q:=λ u=>aH (aE P.prog P.w) F.A (dw (aY ne .NotEq .Eq) u v) Q dq s) h R va λ l o us xs ho hl hv h=>h.u (Q:=λ v=>aH (aE P.prog P.w) F.A (dw (aY ne .NotEq .Eq) (.ref l) v) Q dq s) R vb λ l2 o2 ws ys T1 ZY hw h=>by
  have hu:F.A.units < qI:=O.un (d:=0) (by decide)
  have L1:s.heap.IsList l us:=⟨o,ho,hl.is⟩
  have L2:s.heap.IsList l2 ws:=⟨o2,T1,ZY.is⟩
  rcases h with⟨rfl,hp,hd,hk⟩|⟨hn,hk⟩
  ·have k:oE F.A.in1 s us.toList ws.toList:=s4 R.rm.kg xs F.A.in1 hp (Ni (O.un (b9 (f5 hd) (by decide)))) hv hw
   cases ne with
   |false=>exact L0 L1 L2 (Hx hv hw) hu k _ _ _ _ (q _ hk)
   |true=>exact(ah (λ b=>RcNeAt F.A s (.ref l) (.ref l2) (!b)) (all_true (n:=us.size) (e:=λ aa=>true) λ aa aa=>rfl)).mp (RcNeAt.lists (e:=λ aa=>true) L1 L2 (Hx hv hw) hu k.arr) _ _ _ _ (q _ hk)
  ·have hs:(us.size !=ws.size)=true:=rI.mpr λ e=>hn ((mZ hv).symm.trans (e.trans (mZ hw)))
   cases ne with
   |false=>exact RcAt.lists_lengths L1 L2 hs hu _ _ _ _ (q _ hk)
   |true=>exact RcNeAt.lists_lengths L1 L2 hs hu _ _ _ _ (q _ hk)
def p4(neg:aC)(a b:AV)(mem:ae AO)(K:aC->Prop):Prop:=match a with
 | .int i=>lN b mem λ ns=>K (neg ^^ Cb ns i)
 |a=>lX b mem λ ks aa=>CW a λ k=>K (neg ^^ py ks k)
where Cb:ae Int->Int->aC
 |[],_=>false
 |x::r,i=>aY (decide (x=i)) true (Cb r i)
noncomputable def RW(i:Int)(v:am):aC:=match v with
 | .int j _=>j==i
 |_=>false
theorem Cc{A:bn}{i:Int}{t:j_}:∀{ns:ae Int} {vs:ae am},cw ns vs->vs.any (RW i)=p4.Cb ns i/\∀y∈vs,EqAt A s y (.int i t) (RW i y)
 |[],_=>λ h=>h.u0 (Q:=λ vs=>vs.any (RW i)=false/\∀y∈vs,EqAt A s y (.int i t) (RW i y)) ⟨rfl,λ y hy=>bt hy bN⟩
 |x::r,_=>λ h=>h.uc (Q:=λ vs=>vs.any (RW i)=p4.Cb (x::r) i/\∀y∈vs,EqAt A s y (.int i t) (RW i y)) λ t' vs h=>have z:=Cc (A:=A) (t:=t) h
  ⟨by
   show(x==i||vs.any (RW i))=aY (decide (x=i)) true (p4.Cb r i)
   rw[z.1]
   by_cases q:x=i
   ·rw[cy q,be.mpr q]; rfl
   ·rw[dh q,d9.mpr q]; rfl,aJ.mpr ⟨EqAt.int_int x t' i t,z.2⟩⟩
theorem BQ{neg:aC}(O:gH P ct F)(R:RF F ct.aR G ρ σ s)(va:VR G ρ a u)(vb:VR G ρ b v)(h:lX b σ.mem λ ks aa=>CW a λ k=>K (neg ^^ py ks k))
  (q:∀c t,K c->Q (.bool c) {s with toks:=t}):aH (aE P.prog P.w) F.A (dw (aY neg .NotIn .In) u v) Q dq s:=by
 rcases lz O R vb h with⟨d,ob,xs,ks,dr,rfl,ho,hc,ns,D,e1,e2,e3,h⟩
 refine Gw O R ns D e1 e2 λ room A4 key aa=>(sM va h).elim λ k z=>z.elim λ ka z=>z.1.symm▸?_
 have hh:=wC (n:=k) e1
 cases neg with
 |false=>exact wpAny_in_heap room (key z.2.1) A4 D (q _ _ (hh.symm▸(ah K (Bool.false_xor _)).mp z.2.2))
 |true=>exact PyProof.Rows.wpAny_notIn_heap room (key z.2.1) A4 D (q _ _ (hh.symm▸(ah K (Bool.true_xor _)).mp z.2.2))
theorem OG{neg:aC}(h:p4 neg a b σ.mem K){Q:AV->Prop}(k:∀i,(lN b σ.mem λ ns=>K (neg ^^ p4.Cb ns i))->Q (.int i))(k':(lX b σ.mem λ ks aa=>CW a λ k=>K (neg ^^ py ks k))->Q a):Q a:=by
 rcases a with _|_|_|i|_|_|_|_|_|_|_|_|_|_|_|_|_|_
 case int=>exact k i h
 all_goals exact k' h
theorem ue{neg:aC}(O:gH P ct F)(R:RF F ct.aR G ρ σ s)(va:VR G ρ a u)(vb:VR G ρ b v)(h:p4 neg a b σ.mem K)
  (q:∀c t,K c->Q (.bool c) {s with toks:=t}):aH (aE P.prog P.w) F.A (dw (aY neg .NotIn .In) u v) Q dq s:=
 OG h (Q:=λ a=>VR G ρ a u->aH (aE P.prog P.w) F.A (dw (aY neg .NotIn .In) u v) Q dq s) (λ i h va=>va.iu (Q:=λ u=>aH (aE P.prog P.w) F.A (dw (aY neg .NotIn .In) u v) Q dq s) λ t=>h.u (Q:=λ v=>aH (aE P.prog P.w) F.A (dw (aY neg .NotIn .In) (.int i t) v) Q dq s) R vb λ l o us ns ho hl hi h=>by
  have z:=Cc (A:=F.A.in1) (s:=s) (i:=i) (t:=t) hi
  have L:s.heap.IsList l us:=⟨o,ho,hl.is⟩
  have ha:us.any (RW i)=p4.Cb ns i:=uB.symm.trans z.1
  cases neg with
  |false=>exact in_listAt _ L (λ y hy=>z.2 y (gF.mpr hy)) (q _ s.toks (ha.symm▸(ah K (Bool.false_xor _)).mp h))
  |true=>exact notIn_listAt _ L (λ y hy=>z.2 y (gF.mpr hy)) (q _ s.toks (ha.symm▸(ah K (Bool.true_xor _)).mp h))) (λ h va=>BQ O R va vb h q) va
def RC(a b:AV)(mem:ae AO)(K:aC->Prop):Prop:=lA a λ p=>pB mem p λ o=>CU o λ bs=>IF b λ cs=>K (bs !=cs)
theorem BJ(O:gH P ct F)(R:RF F ct.aR G ρ σ s)(va:VR G ρ a u)(vb:VR G ρ b v)(h:RC a b σ.mem K)(q:∀c,K c->Q (.bool c) s):aH (aE P.prog P.w) F.A (dw .NotEq u v) Q dq s:=
 lA.u (Q:=λ a=>VR G ρ a u->aH (aE P.prog P.w) F.A (dw .NotEq u v) Q dq s) h (λ p h va=>h.u λ o e h=>R.own va e (Q:=λ u=>aH (aE P.prog P.w) F.A (dw .NotEq u v) Q dq s) λ adr ob aa h1 w=>CU.u (Q:=λ o=>OR G ρ o ob->aH (aE P.prog P.w) F.A (dw .NotEq (.ref adr) v) Q dq s) h (λ bs h w=>
  IF.u (Q:=λ b=>VR G ρ b v->aH (aE P.prog P.w) F.A (dw .NotEq (.ref adr) v) Q dq s) h (λ cs h vb=>vb.OB (Q:=λ v=>aH (aE P.prog P.w) F.A (dw .NotEq (.ref adr) v) Q dq s) λ t=>Wp ((show ob=nC bs from w)▸h1) (O.un (d:=0) (by decide)) (q _ h)) vb) w) va
set_option genCtorIdx true
inductive CK where
 |si|NK|Xy|X9|Z7
noncomputable def CK.op:CK->jY
 | .si=> .Eq | .NK=> .NotEq | .Xy=> .In | .X9=> .NotIn | .Z7=> .NotEq
def q6(k:CK)(a b:AV)(mem:ae AO)(K:aC->Prop):Prop:=match k with
 | .si=>Gf false a b mem K
 | .NK=>Gf true a b mem K
 | .Xy=>p4 false a b mem K
 | .X9=>p4 true a b mem K
 | .Z7=>RC a b mem K
theorem uf{k:CK}(O:gH P ct F)(R:RF F ct.aR G ρ σ s)(va:VR G ρ a u)(vb:VR G ρ b v)(h:q6 k a b σ.mem K)(q:∀c t,K c->Q (.bool c) {s with toks:=t}):aH (aE P.prog P.w) F.A (dw k.op u v) Q dq s:=by
 cases k with
 |si=>exact ug O R va vb h λ c h=>q c s.toks h
 |NK=>exact ug O R va vb h λ c h=>q c s.toks h
 |Xy=>exact ue O R va vb h q
 |X9=>exact ue O R va vb h q
 |Z7=>exact BJ O R va vb h λ c h=>q c s.toks h
end
abbrev VV(k:CK)(a b:AV)(m:ae AO)(c:aC):Prop:=∀K:aC->Prop,K c->q6 k a b m K
def W3(ne:aC)(a b:AV)(m:ae AO):aq {c:aC // ∀K:aC->Prop,K c->Gf ne a b m K}:=ob (LW a m) λ xs=>ob (LW b m) λ ys=>bE (!a_ xs.1.length ys.1.length) λ h=>af ⟨ne,λ K z=>xs.2 _ (ys.2 _ (.inr ⟨pI (nb h),z⟩))⟩
def W2(neg:aC)(a b:AV)(m:ae AO):aq {c:aC // ∀K:aC->Prop,K c->p4 neg a b m K}:=match a with
 | .int i=>ob (Lq b m) λ ns=>af ⟨neg ^^ p4.Cb ns.1 i,λ K z=>ns.2 _ z⟩
 |_=>none
def W0(k:CK)(a b:AV)(m:ae AO):aq {c:aC // VV k a b m c}:=match k with
 | .Xy=>W2 false a b m
 | .X9=>W2 true a b m
 | .si=>W3 false a b m
 | .NK=>W3 true a b m
 |_=>none
def Rm(k:CK)(t u:TV)(s:AS):aq (ae (aC×AS)):=ob (toAV t) λ a=>ob (toAV u) λ b=>ob (toSt s) λ σ=>ob (W0 k a.1 b.1 σ.1.mem) λ c=>af [(c.1,s)]
theorem JR{k:CK}{t u:TV}{s:AS}{outs:ae (aC×AS)}{a b:AV}{σ:St}(h:Rm k t u s=af outs)(ga:GV t a)(gb:GV u b)(gs:GS s σ):D2 (λ K=>q6 k a b σ.mem λ c=>K c σ) Eq outs:=
 ob.u h λ a' aa h=>ob.u h λ b' aa h=>ob.u h λ bZ aa h=>ob.u h λ c aa h=>D2.one h rfl gs λ K z=>(a'.2 _ ga).symm▸(b'.2 _ gb).symm▸(ah St.mem (bZ.2 _ gs)).symm▸c.2 _ z
def Sp(l:SE P ct)(k:CK)(r:SE P ct)(p:c7):ST P ct where
 bA:= .Compare l.bA [k.op] [r.bA] p
 run:=λ σ K=>l.run σ λ a aI=>r.run aI λ b aU=>q6 k a b aU.mem λ c=>K c aU
 b_:=vg 3 r.bA&&(l.b_&&r.b_)
 ok:=λ c F G ρ σ s Kv O R h=>have d:=(w8 (aG c).1).2; have c:=(aG c).2; X.isTrue_Compare1 (d _) (SE.then l r (aG c).1 (aG c).2 O R h λ G' ρ' a b u v bZ s' g x R' va vb kk=>
  X.any (uf O R' va vb kk λ c t hk=>X.any (pG ⟨G',ρ',bZ,g,x,R'.toks t,hk⟩)))
 ab:=Rq l.ab r.ab (Rm k)
 cN:=λ fo=>rK fo λ t u s outs a b σ h ga gb gs=>JR h ga gb gs
noncomputable def Zt(l:SE P ct)(k:CK)(r:SE P ct)(p:c7):SE P ct where
 bA:= .Compare l.bA [k.op] [r.bA] p
 run:=λ σ K=>l.run σ λ a aI=>r.run aI λ b aU=>q6 k a b aU.mem λ c=>K (.bool c) aU
 b_:=vg 3 r.bA&&(l.b_&&r.b_)
 star:=λ aa aa=>rfl
 ok:=λ c F G ρ σ s Kv O R h=>have d:=(w8 (aG c).1).2; have c:=(aG c).2; X.Bl (d _) (SE.then l r (aG c).1 (aG c).2 O R h λ G' ρ' a b u v bZ s' g x R' va vb kk=>
  X.any (uf O R' va vb kk λ c t hk=>PE.up g x (PE.here (R'.toks t) VR.Ki hk)))
noncomputable def tOr(l r:ST P ct)(p:c7):ST P ct where
 bA:= .BoolOp .Or [l.bA,r.bA] p
 run:=λ σ K=>l.run σ λ c aI=>aY c (K true aI) (r.run aI K)
 b_:=l.b_&&r.b_
 ok:=λ c F G ρ σ s Kv O R h=>by
  show WP P F.A (do match Jf,← kN l.bA F.env (eval l.bA F.env) with | .And,false=>pure false | .Or,true=>pure true|_,_=>(do match Jf,← kN r.bA F.env (eval r.bA F.env) with | .And,false=>pure false | .Or,true=>pure true|_,_=>pure (Jf== .And))) _ s
  refine X.cL (X.mono (l.ok (aG c).1 F G ρ σ s _ O R h) λ b s₁ z=>z.u λ dU c6 aI fG fb dQ bH=>?_)
  cases b with
  |true=>exact X.ret ⟨dU,c6,aI,fG,fb,dQ,bH⟩
  |false=>
   refine X.cL (X.mono (r.ok (aG c).2 F dU c6 aI s₁ _ O dQ bH) λ b bp z=>?_)
   cases b<;>exact X.ret (PB.up fG fb z)
 ab:=λ s=>bO (l.ab s) λ c s=>aY c (af [(true,s)]) (r.ab s)
 cN:=λ fo s outs h σ gs=>(l.cN fo).bind (C:=λ c aI K=>aY c (K true aI) (r.run aI K)) h gs λ c s l h c' σ ga gs=>by
  cases ga
  cases c
  ·exact r.cN fo s l h σ gs
  ·exact D2.one (a:=true) h rfl gs λ K k=>k
noncomputable def acs(l r:ST P ct)(p:c7):ST P ct where
 bA:= .BoolOp .And [l.bA,r.bA] p
 run:=λ σ K=>l.run σ λ c aI=>aY c (r.run aI K) (K false aI)
 b_:=l.b_&&r.b_
 ok:=λ c F G ρ σ s Kv O R h=>by
  show WP P F.A (do match FH,← kN l.bA F.env (eval l.bA F.env) with | .And,false=>pure false | .Or,true=>pure true|_,_=>(do match FH,← kN r.bA F.env (eval r.bA F.env) with | .And,false=>pure false | .Or,true=>pure true|_,_=>pure (FH== .And))) _ s
  refine X.cL (X.mono (l.ok (aG c).1 F G ρ σ s _ O R h) λ b s₁ z=>z.u λ dU c6 aI fG fb dQ bH=>?_)
  cases b with
  |false=>exact X.ret ⟨dU,c6,aI,fG,fb,dQ,bH⟩
  |true=>
   refine X.cL (X.mono (r.ok (aG c).2 F dU c6 aI s₁ _ O dQ bH) λ b bp z=>?_)
   cases b<;>exact X.ret (PB.up fG fb z)
 ab:=λ s=>bO (l.ab s) λ c s=>aY c (r.ab s) (af [(false,s)])
 cN:=λ fo s outs h σ gs=>(l.cN fo).bind (C:=λ c aI K=>aY c (r.run aI K) (K false aI)) h gs λ c s l h c' σ ga gs=>by
  cases ga
  cases c
  ·exact D2.one (a:=false) h rfl gs λ K k=>k
  ·exact r.cN fo s l h σ gs
def gtN(o:AO)(i:AV)(K:AV->Prop):Prop:=match o with
 | .lst xs=>j5 i λ n=>need (n < 0/\-1000 < n/\-n<=xs.length) (K (fy xs (n+xs.length).toNat))
 | .ba bs=>j5 i λ n=>need (n= -1/\0 < bs.length) (K (.int (bs.getLastD 0).toNat))
 |_=>False
def TN(a i:AV)(mem:ae AO)(K:AV->Prop):Prop:=lA a λ p=>pB mem p λ o=>gtN o i K
theorem Uu{n:Int}{l:Nat}(h:n < 0/\-1000 < n/\-n<=l):(n+l).toNat < l:=(mR (by omega)).mpr (by omega)
theorem It{F:Fd}{G:BM}{ρ:ae au}{σ:St}{s:ar}{Kv:AV->St->Prop}{a i:AV}{u v:am}(O:gH P ct F)(R:RF F ct.aR G ρ σ s)(va:VR G ρ a u)(vi:VR G ρ i v)(h:TN a i σ.mem λ x=>Kv x σ):lr P.prog P.w F.A u v (PE F ct.aR G ρ Kv) s:=
 lA.u (Q:=λ a=>VR G ρ a u->lr P.prog P.w F.A u v (PE F ct.aR G ρ Kv) s) h (λ p h va=>h.u λ o e h=>R.own va e (Q:=λ u=>lr P.prog P.w F.A u v (PE F ct.aR G ρ Kv) s) λ adr ob aa h1 q=>by
  rcases o with xs|_|_|_|_|_|bs|_
  case lst=>
   exact aD q λ vs q=>j5.u (Q:=λ v=>lr P.prog P.w F.A (.ref adr) v (PE F ct.aR G ρ Kv) s) h vi λ n t h=>h.u λ hb h=>(q.2.get (wD xs (n+xs.length).toNat (Uu hb))).elim λ x hx=>
    have e1:(vs.size:Int)=xs.length:=ah Int.ofNat (mZ q.2)
    have L:s.heap.IsList adr vs:=⟨ob,h1,q.1.is⟩
    ⟨"list",_,L.typeIs,AR.lookup,wpAny_getItem_list_neg L hb.1 (e1.symm▸Int.neg_le_of_neg_le hb.2.2) (by have:=hb.2.1; omega) (e1▸bL.symm.trans hx.1) (PE.here R hx.2 h)⟩
  case ba=>
   have q':ob=nC bs:=q
   exact j5.u (Q:=λ v=>lr P.prog P.w F.A (.ref adr) v (PE F ct.aR G ρ Kv) s) h vi λ n t h=>h.u λ hb h=>hb.1.symm▸⟨"bytearray",_,c9 (q'▸h1),eR.lookup,F8 (q'▸h1) (fQ.mp hb.2) (PE.toks R VR.mA h)⟩
  all_goals exact h.elim) va
def Rn(t i:TV)(s:AS):aq (ae (TV×AS)):=ob (nK t) λ p=>ob (lg i) λ n=>jK (gR s.mem p.1) λ o ho=>ob (oLst o) λ vs=>nB (decide (n.1 < 0/\-1000 < n.1/\-n.1<=vs.1.length)) (ob (Q0 vs.1 (n.1+vs.1.length).toNat) λ u=>af [(u,s)])
theorem JV{t i:TV}{s:AS}{outs:ae (TV×AS)}{a b:AV}{σ:St}(h:Rn t i s=af outs)(ga:GV t a)(gb:GV i b)(gs:GS s σ):D2 (λ K=>TN a b σ.mem λ v=>K v σ) GV outs:=
 ob.u h λ p aa h=>ob.u h λ n aa h=>jK.u h λ o ho h=>ob.u h λ vs aa h=>nB.u h λ hn h=>ob.u h λ u hu h=>(gs.vs ho vs.2 λ aa z=>z).elim λ us z=>have hl:=z.2.len; (tV z.2 hu).elim λ v w=>
  D2.one h w.2.2 gs λ K k=>(ll ga p.2).symm▸(ll gb n.2).symm▸dF z.1 (Te (hl.symm▸a4 hn) ((ah (λ m:Nat=>fy us (n.1+m).toNat) hl).trans w.2.1▸k))
def Zz(o i:SE P ct)(p:c7):SE P ct where
 bA:= .Subscript o.bA i.bA p
 run:=λ σ K=>o.run σ λ a aI=>i.run aI λ b aU=>TN a b aU.mem λ v=>K v aU
 b_:=vg 1 i.bA&&(o.b_&&i.b_)
 star:=λ aa aa=>rfl
 ok:=λ c F G ρ σ s Kv O R h=>X.Subscript (SE.then o i (aG (aG c).2).1 (aG (aG c).2).2 O R h λ G' ρ' a b u v bZ s' g x R' va vb k=>(It O R' va vb k).elim λ T z=>z.elim λ id z=>Cu g x (tail_any z.1 z.2.1 z.2.2 ((Hr (aG c).1).1 _ _)))
 ab:=Rq o.ab i.ab Rn
 cN:=λ fo=>rK fo λ t u s outs a b σ h ga gb gs=>JV h ga gb gs
end
set_option genCtorIdx false
section
variable{P:cC}{ct:Ct}
theorem Dh{F:Fd}{G:BM}{ρ:ae au}(O:gH P ct F):∀(ns:ae hH) (dr:ae AV) (us:ae am) (σ:St) (s:ar) {K:St->Prop},jA ct ns=true->RF F ct.aR G ρ σ s->bI G ρ dr us->qd ns dr σ K->
  aH (aE P.prog P.w) F.A (gj (ns.map λ n=>mS F.env n.2.1) us) (λ aa s'=>∃bZ,RF F ct.aR G ρ bZ s'/\K bZ) dq s
 |[],[],us,σ,s,K=>λ c R va h=>va.u0 (Q:=λ us=>aH (aE P.prog P.w) F.A (gj [] us) (λ aa s'=>∃bZ,RF F ct.aR G ρ bZ s'/\K bZ) dq s) (aw ⟨σ,R,h⟩)
 |[],_::_,_,_,_,_=>λ aa aa aa h=>h.elim
 |_::_,[],_,_,_,_=>λ aa aa aa h=>h.elim
 |n::r,v::vs,us,σ,s,K=>λ c R va h=>va.uc (Q:=λ us=>aH (aE P.prog P.w) F.A (gj ((n::r).map λ n:hH=>mS F.env n.2.1) us) (λ aa s'=>∃bZ,RF F ct.aR G ρ bZ s'/\K bZ) dq s) λ u ur vu vr=>
  (aj (bS (wpAny_bindName (qE O R (aG c).1 vu λ s' R'=>Dh O r vs ur _ s' (aG c).2 R' vr h))):aH _ _ (do holding ur (mS F.env n.2.1 u); gj (r.map λ n:hH=>mS F.env n.2.1) ur) _ _ _)
theorem uw:∀(l acc:ae hH),jA ct l=true->jA ct acc=true->jA ct (l.reverseAux acc)=true
 |[],acc=>λ aa h=>h
 |n::r,acc=>λ h k=>uw r (n::acc) (aG h).2 (cz.mpr ⟨(aG h).1,k⟩)
theorem bI.rev{G:BM}{ρ:ae au}:∀{as bs:ae AV} {vs us:ae am},bI G ρ as vs->bI G ρ bs us->bI G ρ (as.reverseAux bs) (vs.reverseAux us)
 |[],bs,_,us=>λ h k=>h.u0 (Q:=λ vs=>bI G ρ bs (vs.reverseAux us)) k
 |a::as,bs,_,us=>λ h k=>h.uc (Q:=λ vs=>bI G ρ ((a::as).reverseAux bs) (vs.reverseAux us)) λ v r h1 h2=>bI.rev (as:=as) (vs:=r) (bs:=a::bs) (us:=v::us) h2 (bI.cons h1 k)
theorem Hk{α:Type}(l:ae α):(l.reverseAux []).length=l.length:=List.length_reverse
noncomputable abbrev acG(vs:ae am):Obj:={cls:= .type "tuple",data:= .seq vs.toArray}
theorem QM{F:Fd}{G:BM}{ρ:ae au}{σ:St}{s₁:ar}{vs:ae am}{as:ae AV}{ns:ae hH}{K:St->Prop}{Q:mo->ar->Prop}{l:au}(O:gH P ct F)(R:RF F ct.aR G ρ σ s₁)(hl:s₁.heap.IsTuple l vs.toArray)
  (c0:jA ct ns=true) (hlen:ns.length=as.length) (va:bI G ρ as vs) (kk:qd (ns.reverseAux []) (as.reverseAux []) σ K) (hq:∀bZ s',RF F ct.aR G ρ bZ s'->K bZ->Q .next s'):
  cK P.j (aE P.prog P.w) F.A (unpackItems (.ref l) (ns.map (·.2.1)).length none) (λ items bp=>cK P.j (aE P.prog P.w) F.A (gj ((ns.map (·.2.1)).reverse.map λ n=>mS F.env n) items.reverse) (λ aa=>Q .next) bp) s₁:=by
 have TZ:(ns.map (·.2.1)).length=vs.toArray.size:=(bJ _).trans ((hlen.trans va.length.symm).trans cS.symm)
 rw[TZ]
 refine X.any (unpackItems_tuple O.room.2.2 hl λ h' e=>?_)
 have R3:=R.grow (s':={s₁ with heap:=h'}) (λ b o' q=>e b o' (dN (b8 q)) q) ⟨rfl,rfl,rfl⟩
 have e1:((ns.map (·.2.1)).reverse.map λ n=>mS F.env n)=(ns.reverseAux []).map λ n=>mS F.env n.2.1:=(ah (List.map λ n=>mS F.env n) List.map_reverse.symm).trans (tW)
 rw[e1,show vs.toArray.toList.reverse=vs.reverseAux [] from rfl]
 exact X.any (cZ (Dh O _ _ _ σ _ (uw ns [] c0 rfl) R3 (bI.rev va bI.nil) kk) (λ aa s' w=>w.elim λ I_ w=>hq _ _ w.1 w.2) λ aa aa z=>z)
theorem dD.rev:∀{ts uU:ae TV} {us rl:ae AV},dD ts us->dD uU rl->dD (ts.reverseAux uU) (us.reverseAux rl)
 |[],uU,_,rl=>λ h g=>h.u0 (Q:=λ us=>dD uU (us.reverseAux rl)) g
 |t::ts,uU,_,rl=>λ h g=>h.uc (Q:=λ us=>dD ((t::ts).reverseAux uU) (us.reverseAux rl)) λ u r a h=>dD.rev (ts:=ts) (us:=r) h (dD.cons a g)
noncomputable def Pn:aB->aC
 | .Starred .. =>true
 |_=>false
theorem Y4{x y:bM}{p1 p2 tp:c7}{k kv:Nat}{vp:c7}{a b:aB}{env:Env}(hk:env.scope.kind= .function)(h0:env.kindOf x=af .local)(h1:env.kindOf y=af .local)(hl:(p2.line==p1.line)=true)(Iv:(x==y)=false)
  (hsa:Pn a=false) (RS:Pn b=false) (hf:(mP 8 a&&mP 8 b)=false) (hc:(te 8 a&&te 8 b)=false):i6 [.Tuple [.Name x p1, .Name y p2] k tp] (.Tuple [a,b] kv vp) env=pure (af [x,y]):=by
 unfold i6
 have hb:(env.blockKind != .function)=false:=by unfold Env.blockKind; rw[hk]; rfl
 have hn:([x,y].filterMap λ z=>af z)=[x,y]:=rfl
 have g0:(env.kindOf x==af .local&&p1.line==(e6 (λ x=>x.pos.line) [DN x p1, .Name y p2].head?).getD 0)=true:=by rw[h0]; show(true&&(p1.line==p1.line))=true; rw[qK]; rfl
 have g1:(env.kindOf y==af .local&&p2.line==(e6 (λ x=>x.pos.line) [DN x p1, .Name y p2].head?).getD 0)=true:=by rw[h1]; exact(show(true&&(p2.line==p1.line))=true from hl)
 have hfm:∀f:aB->aq bM,f (.Name x p1)=af x->f (.Name y p2)=af y->List.filterMap f [.Name x p1, .Name y p2]=[x,y]:=λ f e1 e2=>by
  rw[oq e1,oq e2]; rfl
 have hed:[x,y].eraseDups=[x,y]:=by
  have e:(y==x)=false:=by rw[d9] at Iv ⊢; exact λ z=>Iv z.symm
  simp [List.eraseDups_cons,e]
 have aa2:∀f:aB->aC,f a=false->f b=false->[a,b].any f=false:=λ f e1 e2=>by simp [e1,e2]
 dsimp only
 rw[hfm,aa2]
 ·rw[hed,hb]
  simp only[List.all_cons,List.all_nil,Bool.and_true,hf,hc]
  rfl
 ·exact hsa
 ·exact RS
 ·dsimp only; rw[dj g0]
 ·dsimp only; rw[dj g1]
def Y3(ns:ae hH)(es:ae aB):aC:=match ns,es with
 |[n,m],[a,b]=>m.2.2.line==n.2.2.line&&(!(n.2.1==m.2.1)&&((!Pn a&&!Pn b)&&(!(mP 8 a&&mP 8 b)&&!(te 8 a&&te 8 b))))
 |_,_=>false
theorem QL{ns:ae hH}{es:ae aB}{k kv:Nat}{tp vp:c7}{env:Env}(h:Y3 ns es=true)(hk:env.scope.kind= .function)(hn:∀n∈ns,env.kindOf n.2.1=af .local):i6 [.Tuple (names3 ns) k tp] (.Tuple es kv vp) env=pure (af (ns.map (·.2.1))):=by
 rcases ns with _|⟨n,_|⟨m,_|⟨_,_⟩⟩⟩
 case cons.cons.nil=>
  rcases es with _|⟨a,_|⟨b,_|⟨_,_⟩⟩⟩
  case cons.cons.nil=>
   have h1:=aG h
   have h2:=aG h1.2
   have h3:=aG h2.2
   have h4:=aG h3.1
   have h5:=aG h3.2
   exact Y4 hk (hn _ aW) (hn _ (aQ _ aW)) h1.1 (nb h2.1) (nb h4.1) (nb h4.2) (nb h5.1) (nb h5.2)
  all_goals cases h
 all_goals cases h
def ack(ns:ae hH)(k:Nat)(tp:c7)(es:SL P ct)(kv:Nat)(vp p:c7):SX P ct where
 bA:= .Assign [.Tuple (names3 ns) k tp] (.Tuple es.bA kv vp) p
 run:=λ σ K=>es.run σ λ vs aI=>cJ (tO vs) (qd (ns.reverseAux []) (vs.reverseAux []) aI λ aU=>K .d7 aU)
 b_:=Y3 ns es.bA&&((jA ct ns&&ns.all λ n=>ct.names.lookup n.2.1==af .local)&&es.b_)
 ok:=λ c F G ρ σ s Kv O R h=>have hw:=(aG c).1; have c:=(aG c).2; have c1:=aG (aG c).1
  X.vJ (names:=ns.map (·.2.1)) rfl (QL hw O.kind λ n hn=>(ah (·.lookup n.2.1) O.names).trans (be.mp (bj.mp c1.2 n hn))) (X.L8 (X.mono (es.ok (aG c).2 F G ρ σ s _ _ O R h) λ vs s₁ z=>z.u λ G' ρ' as bZ g x R' va kk=>kk.u λ hsh kk=>
   ⟨va.length.symm▸tP hsh,have f:=R'.freeze (s':={s₁ with heap:=s₁.heap.push (acG vs)}) R'.K0 (aN _ rfl) (λ b o e=>aA _ e) ⟨rfl,rfl,rfl⟩
    QM O f.1 ⟨_,aN _ rfl,rfl,_,rfl⟩ c1.1 ((Hk ns).symm.trans ((wY kk).trans (Hk as))) (bI.up f.2 (Ext.refl _) _ va) kk λ I_ s'' R4 k4=>PF.d7 (g.trans f.2) x R4 k4⟩))
 ab:=λ s=>bO (es.ab s) λ ts s=>nB (bB ts.length 9) (ob (FZ (ns.reverseAux []) (ts.reverseAux []) s) λ s'=>af [(.d7,s')])
 cN:=λ fo s outs h σ gs=>(es.cN fo).bind h gs λ ts s l h vs σ gv gs=>nB.u h λ hl h=>ob.u h λ s' e h=>(vQ e (dD.rev gv rfl) gs).elim λ bZ w=>D2.one (a:=Fl.d7) h rfl w.1 λ K z=>cJ.i ((ah (bB · 9) gv.len).trans hl) (w.2 _ z)
def P6(v:AV)(K:ae AV->Prop):Prop:=match v with
 | .lst xs=>K xs
 |_=>False
theorem P6.u{v:AV}{K:ae AV->Prop}{Q:AV->Prop}(h:P6 v K)(k:∀xs,K xs->Q (.lst xs)):Q v:=by
 rcases v with _|_|_|_|_|_|_|_|_|_|_|xs|_|_|_|_|_|_
 case lst=>exact k xs h
 all_goals exact h.elim
def M0(v x y:AV)(σ:St)(K:AV->St->Prop):Prop:=P6 v λ xs=>j5 x λ i=>j5 y λ j=>cJ (bB xs.length 1000) (K (.lst ((xs.drop (mr xs.length i)).take (mr xs.length j - mr xs.length i))) σ)
theorem bI.drop{G:BM}{ρ:ae au}:∀(n:Nat) {xs:ae AV} {vs:ae am},bI G ρ xs vs->bI G ρ (xs.drop n) (vs.drop n)
 |0,_,_=>id
 |n+1,[],_=>λ h=>h.u0 (Q:=λ vs=>bI G ρ [] (vs.drop (n+1))) bI.nil
 |n+1,a::r,_=>λ h=>h.uc (Q:=λ vs=>bI G ρ ((a::r).drop (n+1)) (vs.drop (n+1))) λ aa aa aa h=>bI.drop n h
theorem bI.take{G:BM}{ρ:ae au}:∀(n:Nat) {xs:ae AV} {vs:ae am},bI G ρ xs vs->bI G ρ (xs.take n) (vs.take n)
 |0,_,_=>λ aa=>bI.nil
 |n+1,[],_=>λ h=>h.u0 (Q:=λ vs=>bI G ρ [] (vs.take (n+1))) bI.nil
 |n+1,a::r,_=>λ h=>h.uc (Q:=λ vs=>bI G ρ ((a::r).take (n+1)) (vs.take (n+1))) λ aa aa h1 h=> .cons h1 (bI.take n h)
theorem YY{G:BM}{ρ:ae au}{xs:ae AV}{vs:bD am}{i j:Int}(hv:bI G ρ xs vs.toList):bI G ρ ((xs.drop (mr xs.length i)).take (mr xs.length j - mr xs.length i)) (slicePick vs (af i) (af j) none).toList:=by
 rw[slicePick_plain,← mZ hv]
 exact bI.take _ (bI.drop _ hv)
theorem QG{F:Fd}{G:BM}{ρ:ae au}{σ:St}{s:ar}{Kv:AV->St->Prop}{xs:ae AV}{l:au}{ob:Obj}{vs:bD am}{i j:Int}{t t':j_}{o sl:aB}(R:RF F ct.aR G ρ σ s)(hG:G l=af ob)(hl:iX ob vs)(hv:bI G ρ xs vs.toList)(hz:bB xs.length 1000=true)
  (h:Kv (.lst ((xs.drop (mr xs.length i)).take (mr xs.length j - mr xs.length i))) σ)
  (hs:subscripted sl false (.ref l) (.ref s.heap.objs.size)=DI [.ref s.heap.objs.size, .ref l] (getItem (.ref l) (.ref s.heap.objs.size))) (hg:∀r,iy o (.ref l) r=pure ()):
  WP P F.A (kK o sl (.ref l) (.ref s.heap.objs.size)) (PE F ct.aR G ρ Kv) {s with heap:=s.heap.push {cls:= .type "slice",data:= .fields #[.int i t, .int j t', .none]}}:=
 have S:=R.grow (s':={s with heap:=s.heap.push {cls:= .type "slice",data:= .fields #[.int i t, .int j t', .none]}}) (λ b o e=>aA _ e) ⟨rfl,rfl,rfl⟩
 have e:(s.heap.push {cls:= .type "slice",data:= .fields #[.int i t, .int j t', .none]}).objs.size=s.heap.objs.size+1:=Heap.size_push _ _
 X.any (slice_listK (items:=vs) (lo:=af i) (hi:=af j) ⟨ob,R.rm.kg _ _ hG,hl.is⟩ (.int _ _) (.int _ _) (e▸PE.fzn S S.K0 (aN _ rfl) (λ b o e=>aA _ e) ⟨rfl,rfl,rfl⟩ (λ g w=>VR.XY w ⟨_,rfl⟩ (bI.up g (Ext.refl _) _ (YY hv))) h) hs hg
  (aF (aT (mZ hv)) (aF (aP hz) (by decide))))
theorem QF{F:Fd}{G:BM}{ρ:ae au}{σ:St}{s:ar}{Kv:AV->St->Prop}{v x y:AV}{u ux uy:am}{o sl:aB}(R:RF F ct.aR G ρ σ s)(va:VR G ρ v u)(vx:VR G ρ x ux)(vy:VR G ρ y uy)(h:M0 v x y σ Kv)
  (hs:∀u b,subscripted sl false u b=DI [b,u] (getItem u b)) (hg:∀u r,iy o u r=pure ()):
  aH (aE P.prog P.w) F.A (newFields "slice" [ux,uy, .none]) (λ b s'=>WP P F.A (kK o sl u b) (PE F ct.aR G ρ Kv) s') dq s:=by
 simp only[newFields]
 refine cO ?_ (by size_fits)
 exact P6.u (Q:=λ v=>VR G ρ v u->WP P F.A (kK o sl u (.ref s.heap.objs.size)) (PE F ct.aR G ρ Kv) {s with heap:=s.heap.push {cls:= .type "slice",data:= .fields #[ux,uy, .none]}}) h (λ xs h va=>
  h.u (Q:=λ ux=>WP P F.A (kK o sl u (.ref s.heap.objs.size)) (PE F ct.aR G ρ Kv) {s with heap:=s.heap.push {cls:= .type "slice",data:= .fields #[ux,uy, .none]}}) vx λ i t h=>
  h.u (Q:=λ uy=>WP P F.A (kK o sl u (.ref s.heap.objs.size)) (PE F ct.aR G ρ Kv) {s with heap:=s.heap.push {cls:= .type "slice",data:= .fields #[.int i t,uy, .none]}}) vy λ j t' h=>h.u λ hz h=>
  va.lstU (Q:=λ u=>WP P F.A (kK o sl u (.ref s.heap.objs.size)) (PE F ct.aR G ρ Kv) {s with heap:=s.heap.push {cls:= .type "slice",data:= .fields #[.int i t, .int j t', .none]}}) λ l ob vs w1 w2 w3=>QG R w1 w2 w3 hz h (hs _ _) (hg _)) va
theorem LQ{e:aB}(h:isNm e=true)(u r:am):iy e u r=pure ():=(wH h).elim λ x w=>w.elim λ q e=>e▸rfl
def VB(o a b:SE P ct)(p2 p:c7):SE P ct where
 bA:= .Subscript o.bA (.Slice (af a.bA) (af b.bA) none p2) p
 run:=λ σ K=>o.run σ λ v aI=>a.run aI λ x aU=>b.run aU λ y dz=>M0 v x y dz K
 ab:=λ s=>bO (o.ab s) λ t s=>bO (a.ab s) λ x s=>bO (b.ab s) λ y s=>ob (toAV t) λ v=>ob (Uo v.1) λ l=>ob (lg x) λ i=>ob (lg y) λ j=>nB (bB l.1.length 1000) (af [(.ex (.lst ((l.1.drop (mr l.1.length i.1)).take (mr l.1.length j.1 - mr l.1.length i.1))),s)])
 cN:=λ fo s outs h σ gs=>(o.cN fo).bind (C:=λ v aI K=>a.run aI λ x aU=>b.run aU λ y dz=>M0 v x y dz K) h gs λ t s l h v σ gv gs=>(a.cN fo).bind (C:=λ x aU K=>b.run aU λ y dz=>M0 v x y dz K) h gs λ x s l h vx σ gx gs=>(b.cN fo).bind (C:=λ y dz K=>M0 v vx y dz K) h gs λ y s l h vy σ gy gs=>
  ob.u h λ w aa h=>ob.u h λ xs aa h=>ob.u h λ i aa h=>ob.u h λ j aa h=>nB.u h λ hn h=>(ll gx i.2).symm▸(ll gy j.2).symm▸((w.2 _ gv).trans xs.2).symm▸D2.one (a:=AV.lst ((xs.1.drop (mr xs.1.length i.1)).take (mr xs.1.length j.1 - mr xs.1.length i.1))) h rfl gs λ K z=>cJ.i hn z
 star:=λ aa aa=>rfl
 b_:=isNm o.bA&&(o.b_&&(a.b_&&b.b_))
 ok:=λ c F G ρ σ s Kv O R h=>have c1:=aG c; have c2:=aG c1.2; have c3:=aG c2.2
  X.Subscript (X.mono (o.ok c2.1 F G ρ σ s _ O R h) λ u s₁ z=>z.u λ dU c6 v aI fG fb dQ va h=>
   (X.cL (X.mono (a.ok c3.1 F dU c6 aI s₁ _ O dQ h) λ ua bp z=>z.u λ jn gZ x aU jd jr gJ vx h=>X.cL (X.holds (X.mono (b.ok c3.2 F jn gZ aU bp _ O gJ h) λ ub fS z=>z.u λ rJ kZ y dz ku kJ lu vy h=>
    X.cL (X.holds (X.ret (X.any (cZ (QF (o:=o.bA) lu (va.up (jd.trans ku) (jr.trans kJ)) (vx.up ku kJ) vy h (λ aa aa=>rfl) (LQ c1.1)) (λ b s' z=>X.mono z λ aa aa z=>PE.up (fG.trans (jd.trans ku)) (fb.trans (jr.trans kJ)) z) λ aa aa z=>z))))))):WP P F.A (do
   let l ← valueOrNone (evalOpt (af a.bA) F.env)
   let u ← holding [l] (valueOrNone (evalOpt (af b.bA) F.env))
   let s ← holding [l,u] (valueOrNone (evalOpt none F.env))
   newFields "slice" [l,u,s]) _ s₁))
end
noncomputable def iZ{α β:Type}(g:α->aq β):ae α->aq (ae β)
 |[]=>af []
 |v::r=>ob (g v) λ w=>ob (iZ g r) λ l=>af (w::l)
theorem bV{α β:Type}{g:α->aq β}{x:α}{y:β}{r:ae α}{l:ae β}(h1:g x=af y)(h2:iZ g r=af l):iZ g (x::r)=af (y::l):=
 (ah (ob · λ w=>ob (iZ g r) λ l=>af (w::l)) h1).trans (ah (ob · λ l=>af (y::l)) h2)
theorem CB{α β:Type}{g:α->aq β}:∀{l:ae α} {r:ae β},iZ g l=af r->r.length=l.length
 |[],_=>λ h=>ak h▸rfl
 |_::_,_=>λ h=>ob.u h λ aa aa h=>ob.u h λ aa e h=>ak h▸ah rz (CB e)
theorem ve{α β:Type}{g:α->aq β}:∀{l:ae α} {r:ae β},iZ g l=af r->∀(i:Nat) b,r[i]?=af b->∃a,l[i]?=af a/\g a=af b
 |[],r=>λ h i b e=>cu ((ak h▸e:([]:ae β)[i]?=af b))
 |v::l,r=>λ h=>ob.u h λ w e1 h=>ob.u h λ q e2 h=>ak h▸λ i b=>match i with
  |0=>λ e=>⟨v,rfl,e1.trans e⟩
  |i+1=>ve e2 i b
noncomputable def X5(l:ae AV):aq (ae Int)->AV
 |some ns=> .row ns
 |none=> .lst l
def mkT(xs:ae AV):AV:=X5 xs (intsOf xs)
section
variable(n:Nat)(m:ae AO)(g:ae AV->aq (ae AV))
noncomputable def YF(C:au)(o:AO):aq AV:=match o with
 | .ns ks vs=>ob (g vs) λ l=>af (.inst C ks l)
 |_=>none
def MD(o:AO):aq AV:=match o with
 | .lst xs=>ob (g xs) λ l=>af (mkT l)
 | .il ns=>af (.row ns)
 | .inst C j=>nB (bB n j) (ob (bK m j) (YF g C))
 | .iM ks vs=>ob (g vs) λ l=>af (.iM ks l)
 | .bG ks vs=>ob (g vs) λ l=>af (.bG ks l)
 |_=>none
def YE(v:AV):aq AV:=match v with
 | .own i=>aY (bB n i) (ob (bK m i) (MD n m g)) (af (.own i))
 | .tup xs=>ob (g xs) λ l=>af (.tup l)
 | .lst xs=>ob (g xs) λ l=>af (.lst l)
 | .inst C ks vs=>ob (g vs) λ l=>af (.inst C ks l)
 | .iM ks vs=>ob (g vs) λ l=>af (.iM ks l)
 | .bG ks vs=>ob (g vs) λ l=>af (.bG ks l)
 |v=>af v
def resB(o:AO):aq AO:=match o with
 | .lst xs=>ob (g xs) λ l=>af (.lst l)
 | .inst C j=>nB (fK j n) (af (.inst C j))
 | .ns ks vs=>ob (g vs) λ l=>af (.ns ks l)
 | .iM ks vs=>ob (g vs) λ l=>af (.iM ks l)
 | .bG ks vs=>ob (g vs) λ l=>af (.bG ks l)
 |o=>af o
end
noncomputable def lO(n:Nat)(m:ae AO):Nat->AV->aq AV
 |0,_=>none
 |k+1,v=>YE n m (iZ (lO n m k)) v
def x8(n:Nat)(m:ae AO)(k:Nat)(o:AO):aq AO:=resB n (iZ (lO n m k)) o
noncomputable def QR:Nat->ae AO->ae AO
 |n+1,o::r=>o::QR n r
 |_,_=>[]
theorem Nc:∀{n:Nat} {l:ae AO} {i:Nat} {o:AO},(QR n l)[i]?=af o->l[i]?=af o
 |_+1,_::_,0,_=>id
 |n+1,_::l,i+1,_=>λ h=>Nc (n:=n) (l:=l) h
 |0,_,_,_=>λ h=>cu h
 |_+1,[],_,_=>id
theorem HB:∀{n:Nat} {l:ae AO},n<=l.length->(QR n l).length=n
 |0,_=>λ aa=>rfl
 |_+1,[]=>λ h=>bt h (ja _)
 |n+1,_::l=>λ h=>ah rz (HB (n:=n) (k5 h))
noncomputable def fR(G:BM)(τ:ae au)(h:Heap):BM:=λ a=>(G a).or (if a∈τ then h.get? a else none)
section
variable{G:BM}{ρ τ:ae au}{m:ae AO}{h:Heap}{n k:Nat}{a:au}{o:Obj}
theorem fR.le:dC G (fR G τ h):=λ a o e=>ah (λ x=>Option.or x (if a∈τ then h.get? a else none)) e
theorem fR.of(e:fR G τ h a=af o):G a=af o\/(a∈τ/\h.get? a=af o):=(A_.mp e).imp id λ w=>(d0 (a∈τ)).elim (λ c=>⟨c,(dj c).symm.trans w.2⟩) λ c=>cu ((bC c).symm.trans w.2)
theorem fR.new(g:G a=none)(c:a∈τ)(e:h.get? a=af o):fR G τ h a=af o:=A_.mpr (.inr ⟨g,(dj c).trans e⟩)
theorem F4{i:Nat}{x:au}(l:i < ρ.length)(e:(ρ++τ)[i]?=af x):ρ[i]?=af x:=(dA l).symm.trans e
theorem Oi{i:Nat}{x:au}(l:ρ.length<=i)(e:(ρ++τ)[i]?=af x):x∈τ:=dy ((eL l).symm.trans e)
noncomputable abbrev Sys(ρ:ae au):Prop:=∀a∈ρ,a≠df
abbrev GOk(g:ae AV->aq (ae AV))(G:BM)(ρ τ:ae au)(h:Heap):Prop:=∀{l r:ae AV} {xs:ae am},g l=af r->bI G (ρ++τ) l xs->bI (fR G τ h) ρ r xs
theorem lf{G:BM}{v t:AV}{x:am}(h:VR G ρ v x)(e:af v=af t):VR G ρ t x:=ak e▸h
theorem X3{G:BM}{l:ae AV}{vs:bD am}(w:G a=af o)(z:iX o vs)(r:bI G ρ l vs.toList):∀{q:aq (ae Int)},intsOf l=q->VR G ρ (X5 l q) (.ref a)
 |some _=>λ e=>VR.Qp w z (n6 e r)
 |none=>λ aa=>VR.XY w z r
section
variable{g:ae AV->aq (ae AV)}(R:RM G (ρ++τ) m h)(sys:Sys (ρ++τ))(ih:GOk g G ρ τ h)
include R in
theorem KT{i:Nat}{ao:AO}(l:ρ.length<=i)(ha:(ρ++τ)[i]?=af a)(e:bK m i=af ao){Q:Prop}(k:∀o,fR G τ h a=af o->OR G (ρ++τ) ao o->Q):Q:=
 (R.obj i a ao ha ((eI _ _).symm.trans e)).elim λ o w=>k o (fR.new (R.fr a (im ha)) (Oi l ha) w.1) w.2
include R ih in
theorem Qk{C:au}{t:AV}{x:au}:∀{ao:AO},YF g C ao=af t->fR G τ h x=af (ge C a)->fR G τ h a=af o->OR G (ρ++τ) ao o->VR (fR G τ h) ρ t (.ref x)
 | .ns ks vs=>λ e w w2 q=>ob.u e λ l hl e=>q.elim λ es q=>q.elim λ n q=>q.elim λ us q=>lf (v:= .inst C ks l) ⟨x,a,es,n,us,rfl,w,q.1▸w2,q.2.1,ih hl q.2.2⟩ e
 | .lst _=>λ e=>cu e
 | .il _=>λ e=>cu e
 | .inst _ _=>λ e=>cu e
 | .iM _ _=>λ e=>cu e
 | .bG _ _=>λ e=>cu e
 | .ba _=>λ e=>cu e
 | .tab=>λ e=>cu e
include R sys ih in
theorem Ql{t:AV}(ha:a∈ρ++τ):∀{ao:AO},MD ρ.length m g ao=af t->fR G τ h a=af o->OR G (ρ++τ) ao o->VR (fR G τ h) ρ t (.ref a)
 | .lst xs=>λ e w q=>ob.u e λ l hl e=>q.elim λ vs q=>lf (X3 w q.1 (ih hl q.2) rfl) e
 | .il ns=>λ e w q=>q.elim λ vs q=>lf (VR.Qp w q.1 q.2) e
 | .inst C j=>λ e w q=>nB.u e λ l e=>ob.u e λ ao hm e=>q.elim λ d q=>KT R (aP l) q.1 hm λ o' w2 q2=>Qk R ih e (q.2▸w) w2 q2
 | .iM ks vs=>λ e w q=>ob.u e λ l hl e=>q.2.elim λ es z=>z.elim λ n z=>z.elim λ us z=>lf (v:= .iM ks l) ⟨a,o,es,n,us,rfl,w,q.1,z.1,z.2.1,ih hl z.2.2.1,z.2.2.2,sys a ha⟩ e
 | .bG ks vs=>λ e w q=>ob.u e λ l hl e=>q.2.elim λ es z=>z.elim λ n z=>z.elim λ us z=>lf (v:= .bG ks l) ⟨a,o,es,n,us,rfl,w,q.1,z.1,z.2.1.up fR.le,ih hl z.2.2.1,z.2.2.2,sys a ha⟩ e
 | .ns _ _=>λ e=>cu e
 | .ba _=>λ e=>cu e
 | .tab=>λ e=>cu e
include R sys ih in
theorem Qj{i:Nat}{t:AV}{x:am}(e:aY (bB ρ.length i) (ob (bK m i) (MD ρ.length m g)) (af (.own i))=af t)(hx:∃a,(ρ++τ)[i]?=af a/\x= .ref a):VR (fR G τ h) ρ t x:=
 hx.elim λ a w=>w.2▸by
  cases l:bB ρ.length i with
  |true=>exact ob.u ((ah (λ b=>aY b (ob (bK m i) (MD ρ.length m g)) (af (.own i))) l).symm.trans e) λ ao hm e=>KT R (aP l) w.1 hm λ o w2 q=>Ql R sys ih (im w.1) e w2 q
  |false=>exact lf (VR.IP (F4 (Nat.lt_of_not_le λ q=>ay ((cY q).symm.trans l)) w.1)) ((ah (λ b=>aY b (ob (bK m i) (MD ρ.length m g)) (af (.own i))) l).symm.trans e)
include R sys ih in
theorem Qh{t:AV}{x:am}:∀v:AV,YE ρ.length m g v=af t->VR G (ρ++τ) v x->VR (fR G τ h) ρ t x
 | .own i=>λ e hx=>Qj R sys ih e hx
 | .tup xs=>λ e hx=>ob.u e λ l hl e=>lf (v:= .tup l) (Nl fR.le (λ o vs=> .imp_right (ih hl)) hx) e
 | .lst xs=>λ e hx=>ob.u e λ l hl e=>lf (v:= .lst l) (Nl fR.le (λ o vs=> .imp_right (ih hl)) hx) e
 | .inst C ks vs=>λ e hx=>ob.u e λ l hl e=>lf (v:= .inst C ks l) (AE fR.le (λ vs=>ih hl) hx) e
 | .iM ks vs=>λ e hx=>ob.u e λ l hl e=>lf (v:= .iM ks l) (Sw fR.le (λ a o es n vs=> .imp_right<| .imp_right<| .imp_right<| .imp_left (ih hl)) hx) e
 | .bG ks vs=>λ e hx=>ob.u e λ l hl e=>lf (v:= .bG ks l) (Sw fR.le (λ a o es n vs=> .imp_right<| .imp_right<| .imp (pw.up fR.le)<| .imp_left (ih hl)) hx) e
 | .undef=>λ e hx=>hx.elim
 | .none=>λ e hx=>lf (v:= .none) hx e
 | .bool b=>λ e hx=>lf (v:= .bool b) hx e
 | .int i=>λ e hx=>lf (v:= .int i) hx e
 | .kq b=>λ e hx=>lf (v:= .kq b) hx e
 | .val v=>λ e hx=>lf (v:= .val v) hx e
 | .any=>λ e hx=>lf (v:= .any) hx e
 | .fn f=>λ e hx=>lf (v:= .fn f) (Zk fR.le hx) e
 | .ly r=>λ e hx=>lf (v:= .ly r) (VR.up fR.le (Ext.refl ρ) (.ly r) hx) e
 | .oH r=>λ e hx=>lf (v:= .oH r) (VR.up fR.le (Ext.refl ρ) (.oH r) hx) e
 | .row r=>λ e hx=>lf (v:= .row r) (VR.up fR.le (Ext.refl ρ) (.row r) hx) e
 | .j6 x y z=>λ e hx=>lf (v:= .j6 x y z) (Sx fR.le hx) e
include ih in
theorem Qi{vR:AO}:∀ao:AO,resB ρ.length g ao=af vR->OR G (ρ++τ) ao o->OR (fR G τ h) ρ vR o
 | .lst xs=>λ e q=>ob.u e λ l hl e=>ak e▸(cP (λ aa=> .imp_right (ih hl)) q:OR _ ρ (.lst l) o)
 | .inst C j=>λ e q=>nB.u e λ l e=>ak e▸(cP (λ aa=> .imp_left (F4 (aP l))) q:OR _ ρ (.inst C j) o)
 | .ns ks vs=>λ e q=>ob.u e λ l hl e=>ak e▸(cP (λ aa=> .imp λ aa=> .imp λ aa=> .imp_right<| .imp_right (ih hl)) q:OR _ ρ (.ns ks l) o)
 | .iM ks vs=>λ e q=>ob.u e λ l hl e=>ak e▸(iN (.imp λ aa=> .imp λ aa=> .imp λ aa=> .imp_right<| .imp_right<| .imp_left (ih hl)) q:OR _ ρ (.iM ks l) o)
 | .bG ks vs=>λ e q=>ob.u e λ l hl e=>ak e▸(iN (.imp λ aa=> .imp λ aa=> .imp λ aa=> .imp_right<| .imp (pw.up fR.le)<| .imp_left (ih hl)) q:OR _ ρ (.bG ks l) o)
 | .il ns=>λ e q=>ak e▸(q:OR _ ρ (.il ns) o)
 | .ba b=>λ e q=>ak e▸(q:OR _ ρ (.ba b) o)
 | .tab=>λ e q=>ak e▸(H4.up fR.le q:OR _ ρ .tab o)
end
theorem EV{f:AV->aq AV}(ih:∀v {t x},f v=af t->VR G (ρ++τ) v x->VR (fR G τ h) ρ t x):∀{l r:ae AV} {xs:ae am},iZ f l=af r->bI G (ρ++τ) l xs->bI (fR G τ h) ρ r xs
 |[],r,xs=>λ e hx=>ak e▸hx
 |v::l,r,xs=>λ e hx=>ob.u e λ w e1 e=>ob.u e λ q e2 e=>ak e▸hx.uc (Q:=λ xs=>bI (fR G τ h) ρ (w::q) xs) λ u us h1 h2=> .cons (ih v e1 h1) (EV ih e2 h2)
theorem sS(R:RM G (ρ++τ) m h)(sys:Sys (ρ++τ)):∀(k:Nat) (v:AV) {t:AV} {x:am},lO ρ.length m k v=af t->VR G (ρ++τ) v x->VR (fR G τ h) ρ t x
 |0=>λ aa aa aa e=>cu e
 |k+1=>λ v aa aa=>Qh R sys (EV (sS R sys k)) v
theorem zt(R:(ρ++τ).Nodup)(h:a∈ρ):a∉τ:=λ k=>(gP.mp R).2.2 a h a k rfl
theorem RM.fz{m':ae AO}(R:RM G (ρ++τ) m h)(sys:Sys (ρ++τ))(e:iZ (x8 ρ.length m 12) (QR ρ.length m)=af m'):RM (fR G τ h) ρ m' h:=
 ⟨λ a o e=>(fR.of e).elim (R.kg a o) f4,((CB e).trans (HB (R.len▸bh.symm▸bq _ _))).symm,
  λ j a ao hj hm=>(ve e j ao hm).elim λ Rt w=>(R.obj j a Rt ((dA (jp hj)).trans hj) (Nc w.1)).imp λ o=> .imp_right (Qi (EV (sS R sys 12)) Rt w.2),
  (gP.mp R.nd).1,λ a ha=>none_of λ o e=>(fR.of e).elim (de (R.fr a (dx _ ha))) λ w=>zt R.nd ha w.1⟩
end
def ND(n:Nat)(v:AV)(m:ae AO):aq (AV×ae AO):=ob (lO n m 12 v) λ t=>ob (iZ (x8 n m 12) (QR n m)) λ m'=>af (t,m')
theorem WC.fz{P:cC}{f:au}{dr:ae AV}{mem:ae AO}{K:AV->ae AO->Prop}(h:WC P f dr mem (λ v m=>∃r,ND mem.length v m=af r/\K r.1 r.2)):WC P f dr mem K:=
 ⟨λ A G ρ s vs room i7 R hv=>X.eh (h.run A G ρ s vs room i7 R hv) (n8 λ v s' z=>by
  rcases z with⟨G',c6,av,m,⟨g,⟨τ,rfl⟩,dQ,va,r,e,hk⟩,kp,nw,gf,gz⟩
  rw[← R.len] at e
  have sys:Sys (ρ++τ):=λ a ha q=>(P.I7 _ (P.mono _ _ g i7)).elim λ o ho=>de (dQ.fr a ha) (q▸ho)
  exact ob.u e λ t ht e=>ob.u e λ m' hm e=>⟨fR G' τ s'.heap,ρ,t,m',⟨g.trans fR.le,Ext.refl _,dQ.fz sys hm,sS dQ sys 12 av ht va,(ak e▸hk:K (t,m').1 (t,m').2)⟩,kp,λ a ha=> .inl ha,λ a o e=>(fR.of e).elim (gf a o) λ w=>(nw a (dH _ w.1)).imp (λ c=>bt w.1 (zt dQ.nd c)) id,gz⟩)⟩
section
variable{prog:aK}{w:bw}{A:bn}{s:ar}{a:au}{bs:ae bX}
theorem D6{v:Int}{t u:j_}{Q:e7->ar->Prop}(h:s.heap.get? a=af (nC bs))(hk:0 < bs.length)(v0:0<=v)(v1:v < 256)(hz:bs.length<=f6)
  (q:∀h',h'.get? a=af (nC (bs.set (bs.length - 1) (eC v.toNat)))->(∀b o,b≠a->s.heap.get? b=af o->h'.get? b=af o)->Q () {s with heap:=h'}):
  aH (aE prog w) A (eP (.ref a) (.int (-1) t) (.int v u)) Q dq s:=by
 unfold eP
 try with_reducible refine bS ?_
 first|refine aj (aw ?_)|skip
 refine aj (lF (c9 h) (by decide) ?_)
 refine aj (c_ (name:=bR "__setitem__") (c9 h) jz
  (cA jz (c9 h) nY ?_ (pd _ _ _)))
 unfold b7.«bytearray.__setitem__»
 show aH _ _ (Builtin.Bytes.subscript? (.int (-1) t)>>=_) _ _ s
 have sub:∀{Q:aq Int->ar->Prop},Q (af (-1)) s->aH (aE prog w) A.in1 (Builtin.Bytes.subscript? (.int (-1) t)) Q dq s:=λ q=>by
  unfold Builtin.Bytes.subscript?
  refine aj (cV (T:="int") (mu s (-1) t) Jj ?_)
  rw[bC (by simp)]
  refine aj (bu (a:=-1) rfl ?_)
  exact aw q
 refine aj (sub ?_)
 dsimp only
 refine aj (nF v0 v1 ?_)
 refine aj (jL h ?_)
 have e:jW (-1) bs.length=af (bs.length - 1):=by
  have h1:(-1:Int) < 0:=by decide
  unfold jW
  simp only[dj h1]
  rw[dj (by rw[jf,cW,cW]; omega)]
  congr 1; omega
 rw[cS,e]
 dsimp only
 refine aj (qh h (cs:=bs.set (bs.length - 1) (eC v.toNat)) (by simp) (by rw[iI]; exact hz) λ h' e1 e2=>?_)
 exact aj (aw (aw ⟨_,rfl,aw (q h' e1 e2)⟩))
end
section
variable{P:cC}{ct:Ct}
inductive ty(n:Int)(len:Nat)(K:Nat->Prop):Prop
 |pos (b0:0<=n) (b1:n < len) (b2:n < 4611686018427387904) (k:K n.toNat):ty n len K
 |last (b0:n= -1) (b1:0 < len) (k:K (len - 1)):ty n len K
def TP(a i:AV)(mem:ae AO)(K:AV->Prop):Prop:=match a with
 | .own p=>pB mem p λ o=>match o with
  | .ba bs=>j5 i λ n=>ty n bs.length λ k=>K (.int (bs.getD k 0).toNat)
  |_=>False
 |_=>False
def U8(a i v:AV)(σ:St)(K:St->Prop):Prop:=match a with
 | .own p=>pB σ.mem p λ o=>match o with
  | .ba bs=>j5 i λ n=>j5 v λ m=>need (0<=m/\m < 256/\bs.length < 1000000) (ty n bs.length λ k=>K (σ.put p (.ba (bs.set k (eC m.toNat)))))
  |_=>False
 |_=>False
theorem wv{F:Fd}{G:BM}{ρ:ae au}{σ:St}{s:ar}{Kv:AV->St->Prop}{a i:AV}{u v:am}(O:gH P ct F)(R:RF F ct.aR G ρ σ s)(va:VR G ρ a u)(vi:VR G ρ i v)(h:TP a i σ.mem λ x=>Kv x σ):
  lr P.prog P.w F.A u v (PE F ct.aR G ρ Kv) s:=by
 cases a<;>first|exact h.elim|skip
 obtain⟨o,ho,h⟩:=G9 h
 obtain⟨adr,jI,rfl⟩:=va.Mi
 obtain⟨ob,h1,q⟩:=R.rm.obj _ _ _ jI ho
 cases o<;>first|exact h.elim|skip
 rename_i bs
 obtain⟨n,t,e1,e2,hk⟩:=Ah vi h
 subst e1 e2
 have q':ob=nC _:=q
 subst q'
 rcases hk with⟨b0,b1,b2,k⟩|⟨b0,b1,k⟩
 ·exact⟨"bytearray",_,c9 h1,eR.lookup,J8 h1 b0 (by omega) b1 (PE.toks R VR.mA k)⟩
 ·subst b0
  refine⟨"bytearray",_,c9 h1,eR.lookup,F8 h1 (fQ.mp b1) (PE.toks R VR.mA ?_)⟩
  have:bs.getLastD 0=bs.getD (bs.length - 1) 0:=by
   rw[nN,nM,f7]
  rw[this]; exact k
theorem Fj{F:Fd}{G:BM}{ρ:ae au}{σ:St}{s:ar}{a i v:AV}{u k' x:am}{K:St->Prop}{Q:e7->ar->Prop}(O:gH P ct F)(R:RF F ct.aR G ρ σ s)(va:VR G ρ a u)(vi:VR G ρ i k')(vv:VR G ρ v x)(h:U8 a i v σ K)
  (hq:∀bZ s',RF F ct.aR G ρ bZ s'->K bZ->Q () s'):aH (aE P.prog P.w) F.A (eP u k' x) Q dq s:=by
 cases a<;>first|exact h.elim|skip
 obtain⟨o,ho,h⟩:=G9 h
 obtain⟨adr,jI,rfl⟩:=va.Mi
 obtain⟨ob,h1,q⟩:=R.rm.obj _ _ _ jI ho
 cases o<;>first|exact h.elim|skip
 obtain⟨n,t,rfl,rfl,h⟩:=Ah vi h
 obtain⟨m,t',rfl,rfl,h⟩:=Ah vv h
 obtain⟨⟨c0,c1,c2⟩,h⟩:=PR h
 have q':ob=nC _:=q
 subst q'
 rcases h with⟨b0,b1,b2,k⟩|⟨b0,b1,k⟩
 ·refine J_ h1 b0 (by omega) b1 c0 c1 (by rw[dX]; omega) λ h' e1 e2=>?_
  have R':=R.turn (vR:= .ba _) (s':={s with heap:=h'}) jI e1 rfl e2 ⟨rfl,rfl,rfl⟩
  exact hq _ _ (by rw[← n7] at R'; exact R') k
 ·subst b0
  refine D6 h1 b1 c0 c1 (by rw[dX]; omega) λ h' e1 e2=>?_
  have R':=R.turn (vR:= .ba _) (s':={s with heap:=h'}) jI e1 rfl e2 ⟨rfl,rfl,rfl⟩
  exact hq _ _ (by rw[← n7] at R'; exact R') k
noncomputable def ZA(o i:SE P ct)(p:c7):SE P ct where
 bA:= .Subscript o.bA i.bA p
 run:=λ σ K=>o.run σ λ a aI=>i.run aI λ b aU=>TP a b aU.mem λ v=>K v aU
 b_:=vg 1 i.bA&&(o.b_&&i.b_)
 star:=λ aa aa=>rfl
 ok:=λ c F G ρ σ s Kv O R h=>have d:=(Hr (aG c).1).1; have c:=(aG c).2; X.Subscript (SE.then o i (aG c).1 (aG c).2 O R h λ G' ρ' a b u v bZ s' g x R' va vb k=>by
  obtain⟨T,id,h1,h2,h3⟩:=wv O R' va vb k
  exact Cu g x (tail_any h1 h2 h3 (d _ _)))
noncomputable def Sj(o i:SE P ct)(p':c7)(op:cF)(e:SE P ct)(p:c7):SX P ct where
 bA:= .AugAssign (.Subscript o.bA i.bA p') op e.bA p
 run:=λ σ K=>o.run σ λ ov aI=>i.run aI λ iv aU=>TP ov iv aU.mem λ a=>e.run aU λ b dz=>zB op a b dz λ r qi=>U8 ov iv r qi λ NA=>K .d7 NA
 b_:=vg 1 i.bA&&(e.b_&&(o.b_&&i.b_))
 ok:=λ c F G ρ σ s Kv O R h=>have d:=(Hr (aG c).1).2; have c:=(aG c).2; X.qM d (SE.then o i (aG (aG c).2).1 (aG (aG c).2).2 O R h λ dU c6 ov iv u w aI s₁ fG fb dQ vo vi k=>by
  obtain⟨_,_,_,_,hg⟩:=wv O dQ vo vi (Kv:=λ a σ=>e.run σ λ b dz=>zB op a b dz λ r qi=>U8 ov iv r qi λ NA=>Kv .d7 NA) k
  refine X.mono (X.any hg) λ v bp z=>?_
  obtain⟨jn,gZ,old,aU,jd,jr,gJ,acL,cU⟩:=z
  refine X.mono (e.ok (aG c).1 F jn gZ aU bp _ O gJ cU) (λ u fS z=>?_)
  obtain⟨rJ,kZ,b,dz,ku,kJ,lu,vb,fE⟩:=z
  refine X.mono (X.any (rV lu (acL.up ku kJ) vb fE)) (λ r sY z=>?_)
  obtain⟨SI,Nz,r',qi,Ca,Dz,pP,vr,nH⟩:=z
  have gg:=jd.trans (ku.trans Ca)
  have xx:=jr.trans (kJ.trans Dz)
  exact X.any (Fj O pP (vo.up gg xx) (vi.up gg xx) vr nH λ I_ s'' AW k=>PF.d7 (fG.trans gg) (fb.trans xx) AW k))
end
noncomputable def q(a b c d:Nat):c7:=⟨a,b,c,d⟩
noncomputable def fnB(o:Obj):aC:=match o.data with
 | .func aa=>true
 |_=>false
theorem KP{o:Obj}(h:fnB o=true):o.data= .func (fdO o):=by
 obtain⟨c,d,dt,sl⟩:=o
 cases dt
 case func=>rfl
 all_goals exact ay h
noncomputable def Cj:ae Int->ae am->aC
 |[],[]=>true
 |i::r,v::t=>iVB i v&&Cj r t
 |_,_=>false
noncomputable def HD(K:f_)(v:am)(p:ae am->aC):aC:=x7 v λ a=>r9 (K.lookup a) λ o=>tyB o.cls "tuple"&&U5 o p
noncomputable def Fc(K:f_):ae (ae Int)->ae am->aC
 |[],[]=>true
 |x::r,v::t=>HD K v (Cj x)&&Fc K r t
 |_,_=>false
noncomputable def GB(K:f_)(a:au):aC:=r9 (K.lookup a) fnB
noncomputable def Zm(K:f_)(v:AV)(u:am):aC:=match v with
 | .fn a=>x7 u λ b=>a_ a b&&GB K a
 | .val c=>x7 c λ a=>x7 u λ b=>a_ a b
 | .int i=>iVB i u
 | .ly xs=>HD K u (Cj xs)
 | .oH A5=>HD K u (Fc K A5)
 |_=>false
theorem u8:∀{ns:ae Int} {vs:ae am},Cj ns vs=true->cw ns vs
 |[],[]=>λ aa=>rfl
 |[],_::_=>λ h=>ay h
 |_::_,[]=>λ h=>ay h
 |i::r,v::t=>λ h=>(Lj (aG h).1).imp λ aa e=>⟨t,ah (·::t) e,u8 (aG h).2⟩
section
variable{K:f_}{G:BM}
theorem xe{v:am}{p:ae am->aC}(hK:∀a o,K.lookup a=af o->G a=af o)(h:HD K v p=true):∃a o vs,v= .ref a/\G a=af o/\px o vs/\p vs.toList=true:=
 (ma h).elim λ a h=>h_ h.2 λ o e k=>(Hq (aG k).2).elim λ vs q=>⟨a,o,vs,h.1,hK _ _ e,⟨Fw (aG k).1,q.imp λ aa=>eD⟩,q.elim λ aa=>f4⟩
abbrev V9(G:BM)(A5:ae (ae Int))(vs:ae am):Prop:=∀(i:Nat) (xs:ae Int),A5[i]?=af xs->∃(b:au) (o:Obj) (us:bD am),vs[i]?=af (dp b)/\G b=af o/\px o us/\cw xs us.toList
theorem C_(hK:∀a o,K.lookup a=af o->G a=af o):∀{A5:ae (ae Int)} {vs:ae am},Fc K A5 vs=true->vs.length=A5.length/\V9 G A5 vs
 |[],[]=>λ aa=>⟨rfl,λ i xs e=>cu e⟩
 |[],_::_=>λ h=>ay h
 |_::_,[]=>λ h=>ay h
 |x::r,v::t=>λ h=>have z:=C_ hK (aG h).2; ⟨ah (·+1) z.1,λ i xs=>match i with
  |0=>λ e=>(xe hK (aG h).1).imp λ a=> .imp λ o=> .imp λ us q=>⟨ah af q.1,q.2.1,q.2.2.1,ak e▸u8 q.2.2.2⟩
  |i+1=>z.2 i xs⟩
theorem Q1{ρ:ae au}{v:AV}{u:am}(hK:∀a o,K.lookup a=af o->G a=af o)(h:Zm K v u=true):VR G ρ v u:=by
 rcases v with _|_|_|i|_|_|c|a|xs|A5|_|_|_|_|_|_|_|_
 case int=>exact Lj h
 case val=>
  obtain⟨a,rfl,h⟩:=ma h
  obtain⟨b,rfl,h⟩:=ma h
  exact aL h▸vB rfl rfl
 case fn=>
  obtain⟨b,rfl,h⟩:=ma h
  exact h_ (aG h).2 λ o e k=>vB (ah dp (aL (aG h).1).symm) ⟨o,_,hK _ _ e,KP k⟩
 case ly=>exact(xe hK h).imp λ aa=> .imp λ aa=> .imp λ aa=> .imp_right<| .imp_right<| .imp_right u8
 case oH=>
  exact(xe hK h).imp λ aa=> .imp λ aa=> .imp λ vs=> .imp_right<| .imp_right<| .imp_right λ p=>have z:=C_ hK p; ⟨(bf).symm.trans z.1,λ i xs e=>(z.2 i xs e).imp λ aa=> .imp λ aa=> .imp λ aa=> .imp_left (bL).symm.trans⟩
 all_goals exact ay h
end
noncomputable def aaZ(K:f_)(gl:ae (bM×AV)):aC:=gl.all λ x=>r9 (nsIn K dG x.1) λ r=>r9 r λ u=>Zm K x.2 u
noncomputable def BF(K:f_)(l:ae bM):aC:=l.all λ x=>r9 (nsIn K dG x) Option.isNone&&!(x==bR "__name__")
def Wn(K:f_)(l:ae (au×ae Nat)):aC:=l.all λ x=>x.2.all λ i=>fK i NM&&tu K x.1 (nm i)
noncomputable def Wl(l:ae (au×ae Nat))(C:au)(i:Nat):aC:=l.any λ x=>a_ x.1 C&&x.2.any λ j=>a_ j i
def Xx(K:f_)(l:ae (au×au)):aC:=l.all λ x=>xJ K x.1 x.2
noncomputable def Xw(l:ae (au×au))(C:au):aq au:=(l.find? λ x=>a_ x.1 C).map (·.2)
def X1(K:f_)(l:ae (au×Nat×au)):aC:=l.all λ x=>fK x.2.1 NM&&nz K x.1 (nm x.2.1) x.2.2
noncomputable def X0(l:ae (au×Nat×au))(C:au)(i:Nat):aq au:=(l.find? λ x=>a_ x.1 C&&a_ x.2.1 i).map (·.2.2)
theorem Ol{K:f_}{l:ae (au×ae Nat)}{C:au}{i:Nat}(k:Wn K l=true)(h:Wl l C i=true):i < NM/\tu K C (nm i)=true:=
 (List.any_eq_true.mp h).elim λ x h=>(List.any_eq_true.mp (aG h.2).2).elim λ j q=>have z:=aG (bj.mp (bj.mp k x h.1) j q.1)
  aL q.2▸aL (aG h.2).1▸⟨mz z.1,z.2⟩
theorem Gv{α β:Type}{l:ae α}{p:α->aC}{f:α->β}{y:β}{Q:Prop}(h:(l.find? p).map f=af y)(k:∀x∈l,p x=true->f x=y->Q):Q:=
 (eH.mp h).elim λ x h=>k x (List.mem_of_find?_eq_some h.1) (List.find?_some h.1) h.2
theorem Pj{K:f_}{l:ae (au×au)}{C fi:au}(k:Xx K l=true)(h:Xw l C=af fi):xJ K C fi=true:=
 Gv h λ x m p e=>aL p▸e▸bj.mp k x m
theorem PJ{K:f_}{l:ae (au×Nat×au)}{C:au}{i:Nat}{g:au}(k:X1 K l=true)(h:X0 l C i=af g):i < NM/\nz K C (nm i) g=true:=
 Gv h λ x m p e=>have z:=aG (bj.mp k x m); aL (aG p).1▸aL (aG p).2▸e▸⟨mz z.1,z.2⟩
structure SP where
 gl:ae (bM×AV)
 blt:ae bM
 at_:ae (au×ae Nat)
 init:ae (au×au)
 uR:ae (au×Nat×au)
def tabsOk(K:f_)(T:SP):aC:=aaZ K T.gl&&(BF K T.blt&&(Wn K T.at_&&(Xx K T.init&&X1 K T.uR)))
inductive JB(K:f_)(G:BM):Prop
 |mk (B:Heap) (p:aK) (l:ae bM) (mg mb:_) (a:K.In B) (b:nS p l mg mb B) (c:∃o,B.get? df=af o) (e:∀a o,B.get? a=af o->G a=af o)
def X4(prog:aK)(w:bw)(K:f_)(T:SP)(h:tabsOk K T=true)(X:BM->Prop)(hX:∀G G',dC G G'->X G->X G')(d:Nat)(j:aC)(cB:au->ae TV->ae TO->aq (ae (TV×ae TO))):cC:=
 have h1:=aG h
 have h2:=aG h1.2
 have h3:=aG h2.2
 have h4:=aG h3.2
 {cB:=cB,prog:=prog,w:=w,K:=K,gl:=T.gl,at_:=Wl T.at_,Φ:=λ G=>JB K G/\X G,d:=d,j:=j
  mono:=λ G G' g z=>⟨z.1.casesOn λ B p l mg mb a b c e=>⟨B,p,l,mg,mb,a,b,c,λ i o q=>g _ _ (e i o q)⟩,hX _ _ g z.2⟩
  base:=λ G z=>z.1.casesOn λ B p l mg mb a b c e=>⟨B,p,l,mg,mb,a,b,e⟩
  glob:=λ G x v ρ z hv=>z.1.casesOn λ B p l mg mb a b c e=>h_ (bj.mp h1.1 _ (mem_of_lookup hv)) λ r hr q=>h_ q λ u hu q=>⟨u,hr.trans (ah af hu),Q1 (λ a' o q=>e _ _ (a _ _ q)) q⟩
  attr:=λ C x hx=>Ol h3.1 hx
  I7:=λ G z=>z.1.casesOn λ B p l mg mb a b c e=>c.imp λ o c=>e _ _ c
  blt:=T.blt
  BF:=λ x hx=>have t:=aG (bj.mp h2.1 x (DK.mp hx)); ⟨h_ t.1 λ r hr q=>hr.trans (ah af (jc.mp q)),λ e=>ay ((nb t.2).symm.trans (be.mpr e))⟩
  init:=Xw T.init
  EI:=λ C fi hx=>Pj h4.1 hx
  uR:=X0 T.uR
  EX:=λ C x g hx=>PJ h4.2 hx}
def cqB(K:f_)(ct:Ct)(fd:d5):aC:=aY ct.cq (x7 fd.code (a_ · v_)&&(fd.qualname=="scan_conditioning"&&lj K)) true
theorem Tf{K:f_}{ct:Ct}{fd:d5}(h:cqB K ct fd=true)(e:ct.cq=true):fd.code= .ref v_/\fd.qualname="scan_conditioning"/\lj K=true:=
 have h:=aG ((ah (aY · _ true) e).symm.trans h)
 ⟨(ma h.1).elim λ a q=>q.1.trans (ah dp (aL q.2)),be.mp (aG h.2).1,(aG h.2).2⟩
def fdB(K:f_)(ct:Ct)(xs:ae bM)(fd:d5)(gb:aC:=false):aC:=(fd.scope.names==ct.names)&&((fd.scope.kind== .function)&&((fd.scope.isGenerator==gb)&&(!fd.scope.isCoroutine&&(fd.closure.isEmpty&&(a_ fd.globals dG&&(a_ fd.builtins mq&&
 (codeIn K fd.code fd.qualname&&(Ad ct.aR&&(xs.isPrefixOf ct.aR&&(xs.all (λ x=>ct.names.lookup x==af .local||ct.names.lookup x==af .cell)&&cqB K ct fd))))))))))
def W7(K:f_)(ct:Ct)(xs:ae bM)(f:au):aC:=GB K f&&fdB K ct xs (fdOf K f)
theorem Co{K:f_}{f:au}(h:GB K f=true):∃oc od Yq,K.lookup f=af (⟨oc,od, .func (fdOf K f),Yq⟩:Obj):=
 h_ h λ o e k=>⟨o.cls,o.dict,o.slots,e.trans (ah (λ d=>af (⟨o.cls,o.dict,d,o.slots⟩:Obj)) ((KP k).trans (ah Data.func (show fdO o=fdOf K f by unfold fdOf; rw[e]))))⟩
theorem Gq{P:cC}{ct:Ct}{xs:ae bM}{dv:ae am}{body:ae fW}{fd:d5}{gb:aC}(h:fdB P.K ct xs fd gb=true)(hb:fd.body= .stmts body)
  (bind:∀(s:ar) (vals:ae am),P.K.In s.heap->vals.length+dv.length=xs.length->mN s fd ⟨vals,[]⟩ (xs.zip (vals++dv))):JD P ct xs dv body fd gb:=
 have h1:=aG h
 have h2:=aG h1.2
 have h3:=aG h2.2
 have h4:=aG h3.2
 have h5:=aG h4.2
 have h6:=aG h5.2
 have h7:=aG h6.2
 have h8:=aG h7.2
 have h9:=aG h8.2
 have h10:=aG h9.2
 have h11:=aG h10.2
 {body:=hb,scope:=be.mp h1.1,kind:=be.mp h2.1,gen:=be.mp h3.1,co:=nb h4.1,Tb:=uV.mp h5.1,glob:=aL h6.1,blt:=aL h7.1,code:=h8.1,cq:=Tf h11.2,bind:=bind,names:=qw h9.1
  pre:=(List.isPrefixOf_iff_prefix.mp h10.1).imp λ aa=>Eq.symm,kinds:=λ x hx=>(g6.mp (bj.mp h11.1 x hx)).imp be.mp be.mp}
theorem zQ{P:cC}{ct:Ct}{f:au}{xs:ae bM}{dv:ae am}{body:ae fW}(h:W7 P.K ct xs f=true)(hb:(fdOf P.K f).body= .stmts body)
  (bind:∀(s:ar) (vals:ae am),P.K.In s.heap->vals.length+dv.length=xs.length->mN s (fdOf P.K f) ⟨vals,[]⟩ (xs.zip (vals++dv))):FnAt P ct f xs dv body:=⟨Co (aG h).1,Gq (aG h).2 hb bind⟩
def Wo(a b:AV):aq {u:e7 // a=b}:=match a,b with
 | .fn x, .fn y=>dE (jl x y) λ h=>af ⟨(),ah AV.fn h⟩
 | .val (.ref x), .val (.ref y)=>dE (jl x y) λ h=>af ⟨(),ah (λ z=>AV.val (.ref z)) h⟩
 | .int x, .int y=>dE (nO x y) λ h=>af ⟨(),ah AV.int h⟩
 | .ly x, .ly y=>dE (nO x y) λ h=>af ⟨(),ah AV.ly h⟩
 | .oH x, .oH y=>dE (nO x y) λ h=>af ⟨(),ah AV.oH h⟩
 | .none, .none=>af ⟨(),rfl⟩
 | .undef, .undef=>af ⟨(),rfl⟩
 | .own x, .own y=>dE (jl x y) λ h=>af ⟨(),ah AV.own h⟩
 | .bool x, .bool y=>dE (nO x y) λ h=>af ⟨(),ah AV.bool h⟩
 | .row x, .row y=>dE (nO x y) λ h=>af ⟨(),ah AV.row h⟩
 |_,_=>none
noncomputable def K3:(l:ae (bM×AV))->(y:bM)->(v:AV)->aq {u:e7 // l.lookup y=af v}
 |[],_,_=>none
 |x::r,y,v=>match e:y==x.1 with
  |true=>ob (Wo x.2 v) λ h=>af ⟨(),by rw[g9,e,h.2]⟩
  |false=>ob (K3 r y v) λ h=>af ⟨(),by rw[g9,e]; exact h.2⟩
section
variable{P:cC}{ct:Ct}
def Vz(x:bM)(v:AV)(p:c7):SE P ct where
 bA:= .Name x p
 run:=λ σ K=>K v σ
 b_:=B7 ct x&&(K3 P.gl x v).isSome
 star:=λ aa aa=>rfl
 ok:=λ c F G ρ σ s Kv O R h=>by
  obtain⟨c1,c2⟩:=aG c
  cases e:K3 P.gl x v with
  |none=>rw[e] at c2; cases c2
  |some u=>exact(xGv (P:=P) (ct:=ct) x v p).ok c1 F G ρ σ s Kv O R ⟨u.2,h⟩
 ab:=λ s=>af [(.ex v,s)]
 cN:=λ aa s outs h σ gs=>by cases h; exact D2.ret rfl gs
end
noncomputable def gp(x:bM)(v:AV):bM×AV:=(x,v)
noncomputable def VG:ae (ae Int):=[[23069,1,1,1],[9606,14,2,0],[4372,16,3,0],[2059,18,4,0],[984,20,5,0],[474,23,6,0],[229,25,7,0],[111,28,8,0],[54,30,9,0],[26,33,10,0],[13,35,11,0],[6,9,12,0],[3,10,13,0],[1,12,13,0],[23167,15,15,1],[16165,36,16,0],[11506,38,17,0],[8316,39,18,0],[6073,40,19,0],[4482,42,20,0],[3311,43,21,0],[2465,45,22,0],[1839,46,23,0],[1372,48,24,0],[1030,49,25,0],[771,51,26,0],[576,52,27,0],[433,54,28,0],[324,56,29,0],[245,57,30,0],[183,59,31,0],[138,60,32,0],[104,62,33,0],[78,63,34,0],[59,32,35,0],[44,33,9,0],[23265,37,37,1],[18508,64,38,0],[14861,65,39,0],[12017,67,40,0],[9759,68,41,0],[7987,69,42,0],[6568,70,43,0],[5400,72,44,0],[4471,73,45,0],[3700,74,46,0],[3067,75,47,0],[2552,77,48,0],[2145,78,49,0],[1798,79,50,0],[1485,48,51,0],[1246,50,52,0],[1039,50,53,0],[867,51,54,0],[724,52,55,0],[604,53,56,0],[504,54,57,0],[420,55,58,0],[352,56,59,0],[293,57,60,0],[246,58,61,0],[203,59,62,0],[171,61,63,0],[143,61,32,0],[23314,65,65,1],[19716,80,66,0],[16684,81,67,0],[14296,82,68,0],[12264,83,69,0],[10556,84,70,0],[9081,86,71,0],[7903,87,72,0],[6825,87,73,0],[5966,72,74,0],[5156,72,75,0],[4508,74,76,0],[3947,74,77,0],[3409,75,78,0],[2998,77,79,0],[2624,77,48,0],[22578,80,81,1],[19740,88,82,0],[17294,89,83,0],[15325,90,84,0],[13550,91,85,0],[11950,92,86,0],[10650,93,87,0],[9494,86,71,0],[21872,88,89,1],[19625,95,90,0],[17625,96,91,0],[15906,97,92,0],[14372,99,93,0],[12980,99,94,0],[11799,93,86,0],[22184,95,96,1],[20294,101,97,0],[18405,102,98,0],[16847,103,99,0],[15421,104,100,0],[14174,99,93,0],[21041,105,102,0],[19471,106,103,0],[17977,107,104,0],[16734,103,99,0],[22055,105,106,1],[20711,108,107,0],[19333,109,103,0],[21911,110,109,0],[20559,111,107,0],[23056,110,111,1],[21794,112,109,0],[23019,112,111,1],[23069,113,113,0]]
def TT:SP:={
 gl:=[gp "USUAL_DC" (.int 16),gp "USUAL_AC" (.int 5),gp "written" (.fn 42),gp "scan_keys" (.fn 61),gp "best_value" (.fn 56),gp "dc_values" (.fn 28),gp "ac_values" (.fn 35),gp "STATES" (.oH VG),gp "Bins" (.val (.ref 245)),gp "DC_BINS" (.int 49),gp "next_context" (.fn 298),gp "put_bits" (.fn 284),gp "TO_BITS" (.int 14),gp "put_size" (.fn 270),gp "FIRST_SIZE" (.int 20),gp "MOST" (.int 32768),gp "AREA" (.int 28),gp "shifted" (.fn 410),gp "FIXED" (.int 113),gp "ac_bins" (.fn 403),gp "put_number" (.fn 424),gp "size_area" (.fn 396),gp "last_place" (.fn 417),gp "HALF" (.int 32768),gp "more_came" (.fn 256),gp "less_came" (.fn 263),gp "SPACE" (.int 19),gp "QmEncoder" (.val (.ref 567)),gp "DC_BOUNDS" (.ly [0,1]),gp "AC_SPLIT" (.int 5),gp "AcPart" (.val (.ref 469)),gp "ac_splits" (.fn 626),gp "DcPart" (.val (.ref 343)),gp "dc_bounds" (.fn 621),gp "DcRefinePart" (.val (.ref 385)),gp "AcRefinePart" (.val (.ref 511)),gp "ArithWriter" (.val (.ref 610)),gp "arith_parts" (.fn 633),gp "unit_count" (.fn 654),gp "units_across" (.fn 647),gp "unit_at" (.fn 661),gp "units" (.fn 668),gp "chosen_conditioning" (.fn 68),gp "scan_conditioning" (.fn 682),gp "parts" (.fn 696),gp "Frame" (.val (.ref 779)),gp "_law_take" (.fn 865),gp "Component" (.val (.ref 713)),gp "Grid" (.val (.ref 812)),gp "Scan" (.val (.ref 847)),gp "_law_units" (.fn 887),gp "MOST_TRIED" (.int 5),gp "data_size" (.fn 49),gp "arith_writer" (.fn 640),gp "grid_conditioning" (.fn 689),gp "_law_wanted" (.fn 897),gp "intervals_of" (.fn 675),gp "_law_intervals" (.fn 892),gp "_law_scan" (.fn 882),gp "_law_filled" (.fn 877),gp "_law_frame" (.fn 872),gp "_law_pool" (.fn 858)]
 blt:=["len","int","bytes","bytearray","abs","range","max","min","list","sorted","dict","set"]
 at_:=[(245,[0,1]),(343,[2,3,4,5,6,7]),(469,[2,8,9,10,11,4,12,5]),(567,[13,14,15,16]),(610,[17,18]),(713,[19,20,21,22]),(779,[23,24,25,26,27,9]),(812,[28,29]),(847,[30,31,32,33,11,34,4])]
 init:=[(245,242),(343,312),(469,445),(567,529),(610,586),(713,710),(779,731),(812,795),(847,830)]
 uR:=[(343,33,319),(343,40,326),(343,14,333),(469,33,452),(469,14,459),(567,35,536),(567,36,543),(567,37,550),(567,38,557),(567,39,564),(610,33,593),(610,14,600),(610,39,607),(779,45,736),(779,46,741),(779,47,748),(779,48,755),(779,44,762),(779,43,769),(779,49,776),(812,41,802),(812,35,809),(847,42,837)]}
end Mine
set_option maxHeartbeats 2000000
namespace Mine
section
variable{α:Type}{prog:aK}{w:bw}{A:bn}{E:am->ar->Prop}{s:ar}
theorem IX{o:am}{name msg:bM}{Q:α->ar->Prop}(hh:A.handled=none)(hm:msg.length<=f6)
  (q:∀s' e,(∀a o,s.heap.get? a=af o->s'.heap.get? a=af o)->s'.gens=s.gens/\s'.os=s.os->s'.TypeIs e "AttributeError"->E e s'):
  aH (aE prog w) A (raiseAttrError o name msg:ie α) Q E s:=by
 unfold raiseAttrError
 refine aj (wpAny_mkStr (aj ?_) hm)
 unfold DT newTuple
 refine aj (cO ?_)
 refine aj (m:=jF _ _) (bu (a:=c8) rfl ?_)
 refine cO ?_
 refine aj (wpAny_mkText (aj ?_))
 have he:=aN (s.heap.push {cls:=cQ "tuple",data:=tX #[mO msg s.toks]}) (o:={cls:=cQ "AttributeError",data:=ib (#[dp s.heap.objs.size,c8,c8,c8,HT false,c8]++ownMembersOf (cQ "AttributeError") [mO msg s.toks])}) rfl
 have hk:∀a o,s.heap.get? a=af o->((s.heap.push {cls:=cQ "tuple",data:=tX #[mO msg s.toks]}).push {cls:=cQ "AttributeError",data:=ib (#[dp s.heap.objs.size,c8,c8,c8,HT false,c8]++ownMembersOf (cQ "AttributeError") [mO msg s.toks])}:Heap).get? a=af o:=λ a o e=>aA _ (aA _ e)
 have hf:s.heap.get? (s.heap.push {cls:=cQ "tuple",data:=tX #[mO msg s.toks]}).objs.size=none:=dd (by simp)
 generalize ((s.heap.push {cls:=cQ "tuple",data:=tX #[mO msg s.toks]}).push {cls:=cQ "AttributeError",data:=ib (#[dp s.heap.objs.size,c8,c8,c8,HT false,c8]++ownMembersOf (cQ "AttributeError") [mO msg s.toks])}:Heap)=H at he hk ⊢
 generalize (s.heap.push {cls:=cQ "tuple",data:=tX #[mO msg s.toks]}).objs.size=e at he hf ⊢
 have hT:∀t,({heap:=H,gens:=s.gens,drawn:=s.drawn,toks:=t,os:=s.os}:ar).TypeIs (.ref e) "AttributeError":=λ t=>⟨_,he,rfl⟩
 unfold noteAttr
 dsimp only
 refine aj ?_
 unfold lacksNameAndObj
 dsimp only
 refine aj (eK (b:=true) (hT _) (by rw[ch]; kernel_rfl) ?_)
 rw[iK,bC aV]
 refine aj (iQ he ?_)
 dsimp only
 refine bu (a:=true) rfl ?_
 rw[dj rfl]
 refine aj (mv ?_)
 refine aj (jX (hT _) ?_)
 dsimp only
 unfold layMembers
 refine aj (iQ he ?_)
 dsimp only
 refine wpAny_update he ?_
 refine wpAny_raiseNew_none hh (q _ _ (λ a o' e'=>?_) ⟨rfl,rfl⟩ ?_)
 ·exact(DF _ _ (λ z:e=a=>by subst z; rw[hf] at e'; cases e')).trans (hk a o' e')
 ·exact⟨_,dI _ he rfl,rfl⟩
end
theorem z9:hU (.type "list") "keys"=pure none:=by rw[bF,aX]; kernel_rfl
section
variable{prog:aK}{w:bw}{A:bn}{E:am->ar->Prop}{h:Heap}{g:bD d6}{d:Drawn}{t:Nat}{os:OsState}{l:au}{vs:bD am}{n:Nat}
theorem EN{tk:j_}{R:Fin->ar->Prop}{Er:am->ar->Prop}(hx:h.get? l=af ⟨.type "list",none, .seq vs n,#[]⟩)(hh:A.handled=none)
  (q:∀s' e,(∀a o,h.get? a=af o->s'.heap.get? a=af o)->s'.gens=g/\s'.os=os->s'.TypeIs e "AttributeError"->Er e s'):
  aH (aE prog w) A (b7.«object.__getattribute__» ⟨[.ref l, .str "keys" tk],[]⟩) R Er ⟨h,g,d,t,os⟩:=by
 have hT:(⟨h,g,d,t,os⟩:ar).TypeIs (.ref l) "list":=⟨_,hx,rfl⟩
 have f1:=z9
 repeat (any_goals (first|assumption|wp_step))
 exact IX (s:=⟨h,g,d,t,os⟩) hh (by rw[dX]; decide+kernel) q
theorem IA{tk:j_}{R:iP->ar->Prop}(hx:h.get? l=af ⟨.type "list",none, .seq vs n,#[]⟩)(hh:A.handled=none)
  (q:∀s' e,(∀a o,h.get? a=af o->s'.heap.get? a=af o)->s'.gens=g/\s'.os=os->s'.TypeIs e "AttributeError"->R (.error e) s'):
  codeAny (aE prog w) A (.call (.builtin "list.__getattribute__") ⟨[.ref l, .str "keys" tk],[]⟩) R ⟨h,g,d,t,os⟩:=
 codeAny_call_builtin F.slot_list_getattribute.plain F.entry_list_ga (F.slot_list_getattribute.check _ _ _ _ _ _ _ _ (show(⟨h,g,d,t,os⟩:ar).TypeIs (.ref l) "list" from⟨_,hx,rfl⟩) (F.args_list_getattribute_2 _ _) (EN hx hh q))
theorem Iz{Q:aq am->ar->Prop}{Er:am->ar->Prop}(hx:h.get? l=af ⟨.type "list",none, .seq vs n,#[]⟩)(hh:A.handled=none)
  (q:∀s',(∀a o,h.get? a=af o->s'.heap.get? a=af o)->s'.gens=g/\s'.os=os->Q none s'):aH (aE prog w) A (getAttr? (.ref l) "keys") Q Er ⟨h,g,d,t,os⟩:=by
 have hT:(⟨h,g,d,t+1,os⟩:ar).TypeIs (.ref l) "list":=⟨_,hx,rfl⟩
 have f2:=F.slot_list_getattribute.lookup
 have f3:=F.slot_list_getattribute.bind (.ref l)
 unfold getAttr? getAttrBy?
 refine aj (wpAny_mkText ?_)
 refine aj ?_
 refine kP ?_
 unfold getAttrBy
 refine bS ?_
 refine aj (jX hT ?_)
 refine aj (bu f2 ?_)
 dsimp only
 rw[bC (by decide)]
 unfold getAttrByItsOwn
 refine aj (bu (a:=none) rfl ?_)
 refine aj ?_
 refine kP ?_
 refine bS ?_
 unfold callGetattribute boundAndCalled
 rw[bC (by decide)]
 refine aj (bu f3 ?_)
 refine vI (IA (h:=h) (t:=t+1) hx hh λ s' e hk hz hT'=>?_)
 dsimp only
 unfold getattributeRaised
 refine aj (eK (b:=true) hT' (by rw[ch]; kernel_rfl) ?_)
 rw[dj rfl]
 unfold hookBehind
 rw[bC (by decide)]
 refine aj (bu (a:=none) list_getattr_none ?_)
 unfold hookOrError attributeErrorLeaves
 dsimp only
 rw[dj (by decide)]
 refine aj (wpAny_throw ?_)
 refine aj (eK (b:=true) hT' (by rw[ch]; kernel_rfl) ?_)
 rw[dj rfl]
 exact aw (q s' hk hz)
end
theorem kH:plainId "dict.update.loop"=true:=by decide+kernel
theorem p5:fu table "dict.update.loop"=af b7.«dict.update.loop»:=entryFor_of_fast (by kernel_rfl)
section
variable{prog:aK}{w:bw}{A:bn}{s:ar}{d l I:au}{vs:bD am}
noncomputable def hW(d I:au)(h:Heap):ae am->ae (Int×am)->Prop
 |[],[]=>True
 |u::us,(k,v)::kvs=>(∃a o ts n t,u= .ref a/\a≠d/\a≠I/\h.get? a=af o/\o.cls= .type "tuple"/\o.data= .seq ts n/\ts.toList=[.int k t,v])/\hW d I h us kvs
 |_,_=>False
theorem Fo(kvs:ae (Int×am))(k:Int)(v:am):(th kvs k v).length<=kvs.length+1:=by
 unfold th
 split<;>simp
theorem hW.keeps{d I:au}{h h':Heap}(k:∀b o,b≠d->b≠I->h.get? b=af o->h'.get? b=af o):∀{us:ae am} {kvs:ae (Int×am)},hW d I h us kvs->hW d I h' us kvs
 |[],[]=>id
 |[],_::_=>id
 |_::_,[]=>id
 |_::us,y::kvs=>λ x=>⟨x.1.imp λ a=> .imp λ o=> .imp λ ts=> .imp λ n=> .imp λ t q=>⟨q.1,q.2.1,q.2.2.1,k a o q.2.1 q.2.2.1 q.2.2.2.1,q.2.2.2.2⟩,hW.keeps (us:=us) (kvs:=kvs) k x.2⟩
theorem Nn{R:iP->ar->Prop}(hh:A.handled=none)(hdI:d≠I)(hdl:d≠l)(hIl:I≠l):∀(more:ae (Int×am)) (i:Nat) (s:ar) (kvs:ae (Int×am)),
  s.heap.DictOf (cD prog w) d kvs->s.heap.IsListIter I l i->s.heap.IsList l vs->hW d I s.heap (vs.toList.drop i) more->kvs.length+more.length<=1000->
  (∀s' h',s'={s with heap:=h',toks:=s'.toks}->h'.DictOf (cD prog w) d (more.foldl (λ k x=>th k x.1 x.2) kvs)->(∀b o,b≠d->b≠I->s.heap.get? b=af o->h'.get? b=af o)->R (.ok (.ret .none)) s')->
  codeAny (aE prog w) A (.builtin "dict.update.loop" ⟨[.ref d, .ref I,np i, .none],[]⟩) R s:=by
 intro more
 induction more with
 |nil=>
  intro i s kvs hd it hl hp hz hR
  refine kV p5 ?_
  rw[ew kH _]
  unfold b7.«dict.update.loop»
  show aH _ _ (gG (.ref I)>>=_) _ _ _
  have hn:vs.toList.drop i=[]:=by
   cases q:vs.toList.drop i with
   |nil=>rfl
   |cons u r=>rw[q] at hp; exact hp.elim
  refine aj (wpAny_pyNext_list_end hh it hl (by rw[← bL]; exact eZ (FD.mp hn)) λ h' e=>?_)
  refine aw ?_
  refine hR {s with heap:=h'} h' rfl (hd.extBut e (λ z=>hdI z)) λ b o h1 h2 h3=>e b o h2 h3
 |cons x more ih=>
  intro i s kvs hd it hl hp hz hR
  obtain⟨k,v⟩:=x
  refine kV p5 ?_
  rw[ew kH _]
  unfold b7.«dict.update.loop»
  show aH _ _ (gG (.ref I)>>=_) _ _ _
  cases hq:vs.toList.drop i with
  |nil=>rw[hq] at hp; exact hp.elim
  |cons u r=>
   rw[hq] at hp
   obtain⟨⟨a,o,ts,n,t,rfl,nad,naI,ho,hc,hdt,e⟩,hp⟩:=hp
   have hu:vs[i]?=af (.ref a):=by rw[← bL,← List.head?_drop,hq]; rfl
   refine aj (wpAny_pyNext_list_item it hl hu λ h' wz sb=>?_)
   dsimp only
   refine aj (bS ?_)
   have EF:h'.get? a=af o:=sb.extBut a o naI ho
   refine aj (wpAny_tryCatch ?_)
   unfold Builtin.Dict.pairItems
   refine aj (jX (s:={s with heap:=h'}) (T:="tuple") ⟨_,EF,hc⟩ ?_)
   rw[dj (by decide)]
   refine aj (wpAny_seqItems EF hdt ?_)
   refine aw ?_
   rw[show((af ts).getD #[]).toList=ts.toList from rfl,e]
   dsimp only
   refine bS ?_
   have K8:Heap.DictOf (cD prog w) h' d kvs:=hd.extBut sb.extBut (λ z=>hdI z)
   have TZ:h'.IsList l vs:=by obtain⟨ol,x1,x2⟩:=hl; exact⟨ol,sb.extBut _ _ (λ z=>hIl z.symm) x1,x2⟩
   refine wpAny_dictSet_pairs (s:={s with heap:=h'}) (hsz:=by rw[dX]; simp at hz; omega) (k:=k) (by show uY k (.int k t)=true; simp [uY]) K8 λ h2 hd2 sb2=>?_
   refine aw ⟨kO kH _,?_⟩
   have keep:∀b o,b≠d->b≠I->s.heap.get? b=af o->h2.get? b=af o:=λ b o n1 n2 q=>sb2.extBut b o n1 (sb.extBut b o n2 q)
   have:=ih (i+1) {s with heap:=h2,toks:=s.toks+1} (th kvs k v) hd2 (wz.extBut sb2.extBut (λ z=>hdI z.symm)) (by obtain⟨ol,x1,x2⟩:=TZ; exact⟨ol,sb2.extBut _ _ (λ z=>hdl z.symm) x1,x2⟩)
    (by
     rw[show vs.toList.drop (i+1)=r by rw[← List.drop_drop,hq]; rfl]
     exact hp.keeps keep) (by have:=Fo kvs k v; simp at hz; omega) (λ s' h3 e3 hd3 k3=>hR s' h3 (by rw[e3]) hd3 λ b o n1 n2 q=>k3 b o n1 n2 (keep b o n1 n2 q))
   exact this
end
section
variable{prog:aK}{w:bw}{A:bn}{E:am->ar->Prop}{s:ar}{l:au}{vs:bD am}{n:Nat}
theorem uK{more:ae (Int×am)}{Q:am->ar->Prop}(hh:A.handled=none)(hx:s.heap.get? l=af ⟨.type "list",none, .seq vs n,#[]⟩)(hp:∀d I,s.heap.get? d=none->s.heap.get? I=none->hW d I s.heap vs.toList more)(hz:more.length<=1000)
  (h:∀s',s'.gens=s.gens/\s'.gens=s.gens/\s'.os=s.os->s'.heap.DictOf (cD prog w) s.heap.objs.size (more.foldl (λ k x=>th k x.1 x.2) [])->(∀b o,s.heap.get? b=af o->s'.heap.get? b=af o)->Q (.ref s.heap.objs.size) s'):
  aH (aE prog w) A (call (.type "dict") [.ref l]) Q E s:=by
 refine DP (Q₁:=λ obj s₁=>obj= .ref s.heap.objs.size/\s₁={s with heap:=s.heap.push {cls:= .type "dict",data:= .dict #[]}}) F.kt_called_dict (F.kt_typeCall_dict_1 _) F.entry_dict_init (kt_code_dict_new _ ⟨rfl,rfl⟩) ?_
 rintro obj s₁ ⟨rfl,rfl⟩
 have uO:(s.heap.push {cls:= .type "dict",data:= .dict #[]}).DictOf (cD prog w) s.heap.objs.size []:=Heap.DictOf.new s.heap
 have VN:=aA {cls:= .type "dict",data:= .dict #[]} hx
 refine⟨uO.typeIs,F.args_dict_init_2 _ _,?_⟩
 unfold b7.«dict.__init__»
 refine aj ?_
 unfold Builtin.Dict.selfAndRest
 refine aj (mf uO.typeIs ?_)
 show aH _ _ (pure (s.heap.objs.size,[dp l])) _ _ _
 refine aw ?_
 show aH _ _ (Builtin.Dict.updateFrom "dict.__init__" s.heap.objs.size (.ref l) [] .none) _ _ _
 unfold Builtin.Dict.updateFrom
 refine aj (jX (T:="list") ⟨_,VN,rfl⟩ ?_)
 rw[dj (by decide)]
 refine aj (Iz VN hh λ s' k z=>?_)
 rw[dj (show(none:aq am).isNone=true from rfl)]
 have kk:∀a o,s.heap.get? a=af o->s'.heap.get? a=af o:=λ a o e=>k a o (aA _ e)
 have RO:s'.heap.IsList l vs:=⟨_,k _ _ VN,⟨rfl,n,rfl⟩⟩
 refine aj (mv ?_)
 refine aj (xE RO ?_)
 refine aw ⟨kO kH _,?_⟩
 have Iu:s.heap.objs.size < s'.heap.objs.size:=by
  obtain⟨o,es,ep,ho,_⟩:=uO
  exact b8 (k _ _ ho)
 have hlI:l < s'.heap.objs.size:=b8 (k _ _ VN)
 have hls:l < s.heap.objs.size:=b8 hx
 have K8:(s'.heap.push {cls:=cQ "list_iterator",data:=ib #[dp l,eA 0 0]}).DictOf (cD prog w) s.heap.objs.size []:=by
  obtain⟨o,es,ep,ho,r⟩:=uO
  exact⟨o,es,ep,aA _ (k _ _ ho),r⟩
 have dead:∀a,s.heap.objs.size<=a->s.heap.get? a=none:=λ a ha=>by
  cases e:s.heap.get? a with
  |none=>rfl
  |some o=>exact bt (b8 e) (Nat.not_lt.mpr ha)
 have hx2:(s'.heap.push {cls:=cQ "list_iterator",data:=ib #[dp l,eA 0 0]}).IsList l vs:=by
  obtain⟨o,ho,r⟩:=RO
  exact⟨o,aA _ ho,r⟩
 have hI:(s'.heap.push {cls:=cQ "list_iterator",data:=ib #[dp l,eA 0 0]}).IsListIter s'.heap.objs.size l 0:=⟨{cls:=cQ "list_iterator",data:=ib #[dp l,eA 0 0]},aN _ rfl,rfl,rfl⟩
 refine Nn (A:=A.in1) (d:=s.heap.objs.size) (I:=s'.heap.objs.size) (l:=l) (vs:=vs) (show A.in1.handled=none from hh) (dN Iu) (uF hls) (uF hlI) more 0 {s' with heap:=s'.heap.push {cls:=cQ "list_iterator",data:=ib #[dp l,eA 0 0]}} [] K8 hI hx2 ?_ (by simpa using hz) ?_
 ·refine hW.keeps (h:=s.heap) (λ b o aa aa e=>aA _ (kk b o e)) ?_
  exact hp _ _ (dead _ (cE _)) (dead _ (by omega))
 ·intro s2 h2 e2 hd2 k2
  refine⟨rfl,h s2 ?_ ?_ λ b o e=>?_⟩
  ·rw[e2]; exact⟨z.1,z.1,z.2⟩
  ·rw[e2]; exact hd2
  ·rw[show s2.heap=h2 by rw[e2]]
   refine k2 b o (λ z=>?_) (λ z=>?_) (aA _ (kk b o e))
   ·subst z; rw[dead _ (cE _)] at e; cases e
   ·subst z; rw[dead _ (by omega)] at e; cases e
end
def Mj{α:Type}(o:aq α)(K:α->Prop):Prop:=match o with
 |some a=>K a
 |none=>False
theorem Mj.u{α:Type}{o:aq α}{K:α->Prop}{Q:Prop}(h:Mj o K)(k:∀a,o=af a->K a->Q):Q:=by
 rcases o with _|a
 ·exact h.elim
 ·exact k a rfl h
theorem G_{α:Type}{o:aq α}{K:α->Prop}{a:α}(e:o=af a)(k:K a):Mj o K:=e▸k
noncomputable def Pl(a:AV):aq Int:=match a with
 | .int i=>af i
 |_=>none
theorem Pl.u{a:AV}{i:Int}(h:Pl a=af i){Q:AV->Prop}(k:Q (.int i)):Q a:=by
 rcases a with _|_|_|j|_|_|_|_|_|_|_|_|_|_|_|_|_|_
 case int=>exact ak h▸k
 all_goals exact cu h
noncomputable def pr2(xs:ae AV):aq (Int×AV):=match xs with
 |[k,v]=>ob (Pl k) λ i=>af (i,v)
 |_=>none
noncomputable def Yx(a:AV):aq (Int×AV):=match a with
 | .tup xs=>pr2 xs
 |_=>none
theorem Yx.u{a:AV}{x:Int×AV}(h:Yx a=af x){Q:AV->Prop}(k:Q (.tup [.int x.1,x.2])):Q a:=by
 rcases a with _|_|_|_|_|_|_|_|_|_|xs|_|_|_|_|_|_|_
 case tup=>
  rcases xs with _|⟨y,_|⟨z,_|_⟩⟩
  case cons.cons.nil=>exact ob.u h λ i e h=>Pl.u e (Q:=λ y=>Q (.tup [y,z])) (ak h▸k:Q (.tup [.int (i,z).1,(i,z).2]))
  all_goals exact cu h
 all_goals exact cu h
noncomputable abbrev wK:ae AV->aq (ae (Int×AV)):=iZ Yx
def x6(d:ae Int×ae AV)(x:Int×AV):ae Int×ae AV:=(p_ d.1 x.1,C5 d.1 d.2 x.1 x.2)
noncomputable def Jr(G:BM)(ρ:ae au):ae (Int×AV)->ae (Int×am)->Prop
 |[],m=>m=[]
 |x::r,m=>∃y q,m=(x.1,y)::q/\VR G ρ x.2 y/\Jr G ρ r q
theorem Jr.len{G:BM}{ρ:ae au}:∀{l:ae (Int×AV)} {m:ae (Int×am)},Jr G ρ l m->m.length=l.length
 |[],_=>λ h=>(show _=[] from h)▸rfl
 |_::_,_=>λ h=>h.elim λ y h=>h.elim λ q h=>h.1▸ah rz (Jr.len h.2.2)
theorem yX{G:BM}{ρ:ae au}{h:Heap}(kg:∀a o,G a=af o->h.get? a=af o):∀{xs:ae AV} {us:ae am} {kvs:ae (Int×AV)},wK xs=af kvs->bI G ρ xs us->
  ∃more:ae (Int×am),(∀d I,h.get? d=none->h.get? I=none->hW d I h us more)/\Jr G ρ kvs more
 |[],us,kvs=>λ e v=>v.u0 (Q:=λ us=>∃more:ae (Int×am),(∀d I,h.get? d=none->h.get? I=none->hW d I h us more)/\Jr G ρ kvs more) ⟨[],λ aa aa aa aa=>trivial,ak e▸rfl⟩
 |x::r,us,kvs=>λ e v=>v.uc (Q:=λ us=>∃more:ae (Int×am),(∀d I,h.get? d=none->h.get? I=none->hW d I h us more)/\Jr G ρ kvs more) λ u ur vu vr=>ob.u e λ w e1 e=>ob.u e λ l e2 e=>(yX kg e2 vr).elim λ more z=>
  (Yx.u e1 (Q:=λ x=>VR G ρ x u->∃more:ae (Int×am),(∀d I,h.get? d=none->h.get? I=none->hW d I h (u::ur) more)/\Jr G ρ kvs more) λ vu=>vu.I8 (Q:=λ u=>∃more:ae (Int×am),(∀d I,h.get? d=none->h.get? I=none->hW d I h (u::ur) more)/\Jr G ρ kvs more) λ a o vs g t hv=>
   t.2.elim λ n hdt=>(hv.u2 (Q:=λ ys=>vs.toList=ys->∃more:ae (Int×am),(∀d I,h.get? d=none->h.get? I=none->hW d I h (.ref a::ur) more)/\Jr G ρ kvs more) λ y yr vy vz=>vy.iu (Q:=λ y=>vs.toList=[y,yr]->∃more:ae (Int×am),(∀d I,h.get? d=none->h.get? I=none->hW d I h (.ref a::ur) more)/\Jr G ρ kvs more) λ tk ey=>
    ⟨(w.1,yr)::more,λ d I hd hI=>⟨⟨a,o,vs,n,tk,rfl,λ q=>de hd (q▸kg _ _ g),λ q=>de hI (q▸kg _ _ g),kg _ _ g,t.1,hdt,ey⟩,z.1 d I hd hI⟩,ak e▸⟨yr,more,rfl,vz,z.2⟩⟩) rfl) vu
structure zm(G:BM)(ρ:ae au)(d:ae Int×ae AV)(m:ae (Int×am)):Prop where
 ks:m.map (·.1)=d.1
 vs:bI G ρ d.2 (m.map (·.2))
 nd:d.1.Nodup
theorem zm.put{G:BM}{ρ:ae au}{d:ae Int×ae AV}{m:ae (Int×am)}(I:zm G ρ d m){k:Int}{v:AV}{y:am}(hv:VR G ρ v y):zm G ρ (x6 d (k,v)) (th m k y):=by
 rw[show th m k y=_ from vl k (λ kv=>(kv.1,y)) (k,y) m (I.ks▸I.nd)]
 have z:=qz (n:=k) OT (val:=id) (f:=λ aa=>y) hv rfl (λ aa=>rfl) (xs:=m) (vs:=d.2) I.vs
 exact⟨z.1.trans (ah (p_ · k) I.ks),(ah (λ ks=>bI G ρ (jS KH ks d.2 k v) ((sd k (λ kv=>(kv.1,y)) (k,y) m).map λ x:Int×am=>x.2)) I.ks).mp z.2,(ut I.nd).1⟩
theorem zm.fold{G:BM}{ρ:ae au}:∀{kvs:ae (Int×AV)} {more:ae (Int×am)} {d:ae Int×ae AV} {m:ae (Int×am)},Jr G ρ kvs more->zm G ρ d m->zm G ρ (kvs.foldl x6 d) (more.foldl (λ k x=>th k x.1 x.2) m)
 |[],more,d,m=>λ h I=>(show more=[] from h)▸I
 |x::r,more,d,m=>λ h I=>h.elim λ y h=>h.elim λ q h=>h.1▸zm.fold (kvs:=r) (more:=q) (d:=x6 d x) h.2.2 (I.put h.2.1)
def dctP(kvs:ae (Int×AV)):AO:= .iM (kvs.foldl x6 ([],[])).1 (kvs.foldl x6 ([],[])).2
def sU:vO:=λ a σ K=>m7 a σ.mem λ xs=>Mj (wK xs) λ kvs=>cJ (bB kvs.length 1000) (K (.own σ.mem.length) ⟨σ.loc,σ.mem++[dctP kvs]⟩)
section
variable{P:cC}{ct:Ct}
noncomputable def NT:ae (Int×TV)->ae (Int×AV)->Prop
 |[],m=>m=[]
 |x::r,m=>∃y q,m=(x.1,y)::q/\GV x.2 y/\NT r q
theorem NT.len:∀{l:ae (Int×TV)} {m:ae (Int×AV)},NT l m->m.length=l.length
 |[],_=>λ h=>(show _=[] from h)▸rfl
 |_::_,_=>λ h=>h.elim λ y h=>h.elim λ q h=>h.1▸ah rz (NT.len h.2.2)
noncomputable def acE(t:TV):aq {x:Int×TV // ∀v,GV t v->∃w,Yx v=af (x.1,w)/\GV x.2 w}:=ob (tTp t) λ c=>ob (lg c.1.1) λ k=>af ⟨(k.1,c.1.2),λ v g=>(c.2▸g:GV (.tp c.1.1 c.1.2) v).elim λ a g=>g.elim λ b g=>⟨b,g.1▸(ll g.2.1 k.2).symm▸rfl,g.2.2⟩⟩
noncomputable def Na:(ts:ae TV)->aq {kvs:ae (Int×TV) // ∀vs,dD ts vs->∃uP,wK vs=af uP/\NT kvs uP}
 |[]=>af ⟨[],λ vs g=>g.u0 (Q:=λ vs=>∃uP,wK vs=af uP/\NT [] uP) ⟨[],rfl,rfl⟩⟩
 |t::r=>ob (acE t) λ x=>ob (Na r) λ l=>af ⟨x.1::l.1,λ vs g=>g.uc (Q:=λ vs=>∃uP,wK vs=af uP/\NT (x.1::l.1) uP) λ v us gv gu=>(x.2 v gv).elim λ w z=>(l.2 us gu).elim λ uP y=>⟨(x.1.1,w)::uP,bV z.1 y.1,w,uP,rfl,z.2,y.2⟩⟩
def zc(d:ae Int×ae TV)(x:Int×TV):ae Int×ae TV:=(p_ d.1 x.1,Nf d.1 d.2 x.1 x.2)
theorem xd:∀{ks:ae Int} {ts:ae TV} {x:Int} {t:TV},ks.length=ts.length->(m8 KH ks x).length=(jS KH ks ts x t).length
 |[],[],_,_=>λ aa=>rfl
 |k::ks,t::ts,x,u=>λ l=>by
  cases q:KH k x with
  |true=>rw[qA q,n_ q]; exact l
  |false=>rw[mH q,k_ q]; exact ah (·+1) (xd (eG l))
 |[],_::_,_,_=>λ l=>bt l.symm (cx _)
 |_::_,[],_,_=>λ l=>bt l (cx _)
structure yc(d:ae Int×ae TV)(e:ae Int×ae AV):Prop where
 ks:e.1=d.1
 vs:dD d.2 e.2
 ln:d.1.length=d.2.length
theorem yc.fold:∀{kvs:ae (Int×TV)} {uP:ae (Int×AV)} {d:ae Int×ae TV} {e:ae Int×ae AV},NT kvs uP->yc d e->yc (kvs.foldl zc d) (uP.foldl x6 e)
 |[],uP,d,e=>λ h I=>(show uP=[] from h)▸I
 |x::r,uP,d,e=>λ h I=>h.elim λ y h=>h.elim λ q h=>h.1▸yc.fold (kvs:=r) (uP:=q) (d:=zc d x) (e:=x6 e (x.1,y)) h.2.2 ⟨ah (p_ · x.1) I.ks,(ah (λ ks=>dD (zc d x).2 (jS KH ks e.2 x.1 y)) I.ks).mpr (qa h.2.1 I.ln I.vs),xd I.ln⟩
def Su(kvs:ae (Int×TV)):TO:= .iM (kvs.foldl zc ([],[])).1 (kvs.foldl zc ([],[])).2
theorem QQ{m:ae AO}{kvs:ae (Int×TV)}{uP:ae (Int×AV)}(h:NT kvs uP):GO m (Su kvs) (dctP uP):=
 have I:yc (kvs.foldl zc ([],[])) (uP.foldl x6 ([],[])):=yc.fold h ⟨rfl,rfl,rfl⟩
 ⟨_,ah (AO.iM · (uP.foldl x6 ([],[])).2) I.ks,I.vs⟩
def KB(t:TV)(s:AS):aq (ae (TV×AS)):=ob (vt t s) λ c=>ob (Na c.1.2) λ kvs=>nB (bB kvs.1.length 1000) (af [(.ex (.own s.mem.length),⟨s.loc,s.mem++[Su kvs.1]⟩)])
theorem Ij{t:TV}{s:AS}{outs:ae (TV×AS)}{a:AV}{σ:St}(h:KB t s=af outs)(ga:GV t a)(gs:GS s σ):D2 (sU a σ) GV outs:=
 ob.u h λ c aa h=>ob.u h λ kvs aa h=>nB.u h λ hl h=>gs.lst c ga (Q:=λ a=>D2 (sU a σ) GV outs) λ us m gu=>(kvs.2 us gu).elim λ uP z=>
  D2.one (a:=AV.own σ.mem.length) (σ:=⟨σ.loc,σ.mem++[dctP uP]⟩) h (ah AV.own gs.mem.len.symm) ⟨gs.loc,gs.mem.app (QQ z.2) rfl⟩ λ K k=>dF m (G_ z.1 (cJ.i ((ah (bB · 1000) z.2.len).trans hl) k))
theorem Ik:N4 P ct (.type "dict") false sU:=λ F G ρ σ s Kv a v aa O R va h=>
 m7.u (Q:=λ v=>WP P F.A (call (.type "dict") [v] []) (PE F ct.aR G ρ Kv) s) h R va λ l o us xs ho hl hv h=>h.u λ kvs e h=>h.u λ hz h=>(yX R.rm.kg e hv).elim λ more z=>hl.elim λ n hl=>
  X.any (uK (more:=more) O.room.2.2 (hl▸ho) z.1 (aF (aT z.2.len) (aP hz)) λ s' w D' keep=>by
   have I:zm G ρ (kvs.foldl x6 ([],[])) (more.foldl (λ k x=>th k x.1 x.2) []):=zm.fold z.2 ⟨rfl,bI.nil,f8⟩
   obtain⟨o',A0,Jw,EF,ZU,K8,ZW,hp',RP⟩:=D'
   exact PE.E1 (ao:=dctP kvs) R R.K0 EF ⟨ZU,A0,Jw,_,K8,I.ks▸xH.of hp' λ e he=>ZW e (gF.mp he),bI.up (dC.refl _) (Ext.snoc _ _) _ I.vs,I.nd⟩ keep w h)
def Ou:Bf P ct:=Rv "dict" (.type "dict") sU false (λ aa e=>nomatch e) Ik KB λ t s outs a σ h ga gs=>Ij h ga gs
def Vy(q:c7)(as:SL P ct)(p:c7):SE P ct:=xB Ou q as p
end
section
variable{prog:aK}{w:bw}{A:bn}{E:am->ar->Prop}{s:ar}
theorem BV{id:cR}{o:au}{oo:Obj}{e:bi}{ep:Nat}{a:au}{Q:bD bi->ar->Prop}(ho:s.heap.get? o=af oo)(hd:oo.data= .dict #[e] ep)(ha:e.key= .ref a)(ht:s.TypeIs (.ref a) "tuple")(h:Q #[e] s):
  aH (aE prog w) A (Builtin.Dict.entriesForEmpty id o) Q E s:=by
 unfold Builtin.Dict.entriesForEmpty
 refine aj (ed ho hd ?_)
 rw[← Array.forIn_toList]
 show aH _ _ (forIn [e] _ _>>=_) _ _ _
 rw[xk]
 refine aj (aj ?_)
 unfold Builtin.Dict.quietEq
 rw[ha]
 dsimp only
 refine aj (aj (cV ht PySem.F.slot_tuple_eq.lookup (aw ?_)))
 rw[dj (by decide)]
 have hf:¬(Array.filter (λ x=>x.hash==e.hash) #[e]).size > 1:=by
  have:=Array.size_filter_le (p:=λ x:bi=>x.hash==e.hash) (xs:=#[e])
  simp at this ⊢<;>omega
 rw[bC hf]
 exact aw (aw (aw h))
theorem Ef{o:au}{oo:Obj}{es:bD bi}{ep:Nat}{Q:am->ar->Prop}(hoS:(o==df)=false)(ho:s.heap.get? o=af oo)(hc:oo.ExactDict)(hd:oo.data= .dict es ep)
  (hk:∀e∈es.toList,∃a ob,e.key= .ref a/\s.heap.get? a=af ob/\ob.cls= .type "tuple") (hz:es.size<=1)
  (h:∀h' o' Jw,h'.get? s.heap.objs.size=af o'->o'.ExactDict->o'.data= .dict es Jw->(∀b x,s.heap.get? b=af x->h'.get? b=af x)->Q (.ref s.heap.objs.size) {s with heap:=h'}):
  aH (aE prog w) A (call (.type "dict") [.ref o]) Q E s:=by
 refine DP (Q₁:=λ obj s₁=>obj= .ref s.heap.objs.size/\s₁={s with heap:=s.heap.push {cls:= .type "dict",data:= .dict #[]}}) PySem.F.kt_called_dict (PySem.F.kt_typeCall_dict_1 _) PySem.F.entry_dict_init (kt_code_dict_new _ ⟨rfl,rfl⟩) ?_
 rintro obj s₁ ⟨rfl,rfl⟩
 have uO:(s.heap.push {cls:= .type "dict",data:= .dict #[]}).get? s.heap.objs.size=af {cls:= .type "dict",data:= .dict #[]}:=aN _ rfl
 have EF:(s.heap.push {cls:= .type "dict",data:= .dict #[]}).get? o=af oo:=aA _ ho
 have hdo:s.heap.objs.size≠o:=λ e=>bt (b8 ho) (by rw[e]; exact fj _)
 have hT:Shared.TypeIs {s with heap:=s.heap.push {cls:= .type "dict",data:= .dict #[]}} (.ref o) "dict":=⟨_,EF,hc.1⟩
 have hTn:Shared.TypeIs {s with heap:=s.heap.push {cls:= .type "dict",data:= .dict #[]}} (.ref s.heap.objs.size) "dict":=⟨_,uO,rfl⟩
 refine⟨hTn,PySem.F.args_dict_init_2 _ _,?_⟩
 unfold b7.«dict.__init__»
 refine aj ?_
 unfold Builtin.Dict.selfAndRest
 refine aj (mf hTn ?_)
 show aH _ _ (pure (s.heap.objs.size,[dp o])) _ _ _
 refine aw ?_
 show aH _ _ (Builtin.Dict.updateFrom "dict.__init__" s.heap.objs.size (.ref o) [] .none) _ _ _
 unfold Builtin.Dict.updateFrom
 refine aj (jX hT ?_)
 rw[bC (by decide)]
 refine aj ?_
 unfold Builtin.Dict.merge
 refine aj ?_
 unfold Builtin.Dict.readDirectly
 refine aj (eK hT isSubtype_dict_dict ?_)
 simp only[iK,s7,if_false]
 refine aj (cV hT PySem.F.slot_dict_iter.lookup (aw ?_))
 simp only[qK,if_true]
 refine aj (aw ?_)
 unfold Builtin.Dict.mergeDict
 rw[bC (by simpa using hdo)]
 unfold Builtin.Dict.showsAll
 rw[bC (by rw[hoS]; exact aV)]
 refine aj (aw ?_)
 refine aj (ed EF hd ?_)
 dsimp only
 obtain⟨l⟩:=es
 have hc2:l=[]\/∃e,l=[e]:=by
  cases l with
  |nil=>exact .inl rfl
  |cons e r=>
   cases r with
   |nil=>exact .inr ⟨e,rfl⟩
   |cons e' r=>exact bt hz (by simp)
 rcases hc2 with rfl|⟨e,rfl⟩
 ·rw[bC (by simp)]
  refine aj (nt EF hd ?_)
  refine aj (ed EF hd ?_)
  rw[mW]
  simp only[Std.Legacy.Range.size,Nat.sub_zero,Nat.add_sub_cancel,Nat.div_one]
  show aH _ _ (forIn ([]:ae Nat) _ _>>=_) _ _ _
  rw[List.forIn_nil]
  exact aj (aw (aw (aj (aw (aw ⟨rfl,h _ _ _ uO ⟨rfl,rfl,rfl⟩ rfl λ b x q=>aA _ q⟩)))))
 ·obtain⟨a,ob,e1,e2,e3⟩:=hk e aW
  rw[dj (by obtain⟨_,_,_⟩:=e; subst e1; kernel_rfl)]
  refine aj (ed uO rfl ?_)
  rw[dj (by rfl)]
  refine aj (BV EF hd e1 ⟨ob,aA _ e2,e3⟩ ?_)
  rw[dj (by rfl)]
  refine aj (wpAny_updateDictKeysTo uO rfl (aw ?_) (by simp))
  exact aj (aw (aw ⟨rfl,h _ _ _ (dI _ uO rfl) ⟨rfl,rfl,rfl⟩ rfl λ b x q=>(DF _ _ (λ z=>bt (b8 q) (by rw[← z]; exact fj _))).trans (aA _ q)⟩))
end
section
variable{P:cC}{ct:Ct}
def wU:vO:=λ a σ K=>lX a σ.mem λ ks vs=>cJ (bB ks.length 1) (K (.own σ.mem.length) ⟨σ.loc,σ.mem++[.bG ks vs]⟩)
noncomputable def WN(o:AO):aq {c:ae (ae Int)×ae AV // o= .bG c.1 c.2}:=match o with
 | .bG ks vs=>af ⟨(ks,vs),rfl⟩
 |_=>none
def aaK(a:AV)(m:ae AO):aq {c:ae (ae Int)×ae AV // ∀K:ae (ae Int)->ae AV->Prop,K c.1 c.2->lX a m K}:=match a with
 | .own p=>jK (bK m p) λ o ho=>ob (WN o) λ c=>af ⟨c.1,λ K z=>dF ho (c.2▸z)⟩
 | .bG ks vs=>af ⟨(ks,vs),λ K z=>z⟩
 |_=>none
def OV(a:AV)(σ:St):aq {r:AV×St // tv (wU a σ) r}:=ob (aaK a σ.mem) λ d=>bE (bB d.1.1.length 1) λ h=>af ⟨(.own σ.mem.length,⟨σ.loc,σ.mem++[.bG d.1.1 d.1.2]⟩),λ K z=>d.2 _ (cJ.i h z)⟩
theorem Ii:N4 P ct (.type "dict") false wU:=λ F G ρ σ s Kv a v aa O R va h=>by
 rcases yT O R va h with⟨d,o,es,ep,us,ks,dr,rfl,ho,hc,ns,hd,hk,hv,hn,h⟩
 exact h.u λ hl h=>(hk.rows (prog:=P.prog) (w:=P.w)).elim λ xs z=>
  X.any (Ef (d9.mpr ns) ho hc hd (λ e he=>(dM.mp (z.2.2.1▸he)).elim λ x w=>(z.2.2.2 x w.1).elim λ o' t=>t.elim λ vs t=>⟨x.2.1,o',ah DictEntry.key w.2.symm,R.rm.kg _ _ t.1,t.2.1.1⟩)
   (aF (aT (bf.symm.trans ((ah fU z.2.2.1).trans ((bJ _).trans ((bJ _).symm.trans (ah fU z.1)))))) (aP hl))
   λ h' o' Jw g c' d' keep=>PE.E1 (ao:= .bG ks dr) (s':={s with heap:=h'}) R R.K0 g ⟨c',es,Jw,us,d',hk,bI.up (dC.refl _) (Ext.snoc _ _) _ hv,hn⟩ keep ⟨rfl,rfl,rfl⟩ h)
def Ot:Bf P ct:=Rv "dict" (.type "dict") wU false (λ aa e=>nomatch e) Ii (WY OV) zN
def Vx(q:c7)(as:SL P ct)(p:c7):SE P ct:=xB Ot q as p
end
theorem cw.ints:∀{ns:ae Int} {vs:ae am},cw ns vs->IntsAre vs ns
 |[],_=>λ h=>h.u0 (Q:=λ vs=>IntsAre vs []) .nil
 |n::r,_=>λ h=>h.uc (Q:=λ vs=>IntsAre vs (n::r)) λ t aa h=> .cons n t h.ints
section
variable{prog:aK}{w:bw}{A:bn}{E:am->ar->Prop}{s:ar}
theorem Pq{k:Int}{v:am}(h:(cD prog w).is k v=true):∃t,v= .int k t:=by
 rcases v with _|_|_|_|⟨n,t⟩|_|_|_|_|_|_
 case int=>exact⟨t,ah (eA · t) (be.mp (show(n==k)=true from h))⟩
 all_goals exact ay (show false=true from h)
theorem yO:∀{kvs:ae (Int×am)} {vs:ae am},vs.length=kvs.length->(∀(j:Nat) (v:am),vs[j]?=af v->∃k x,kvs[j]?=af (k,x)/\(cD prog w).is k v=true)->cw (kvs.map (·.1)) vs
 |[],vs=>λ l aa=>cX.mp l
 |x::r,[]=>λ l=>bt l.symm (cx _)
 |x::r,v::vs=>λ l h=>(h 0 v rfl).elim λ k w=>w.elim λ y w=>(Pq w.2).elim λ t e=>⟨t,vs,(ah (λ z:Int×am=>eA z.1 t::vs) (ak w.1)).symm▸e▸rfl,yO (eG l) λ j u hu=>h (j+1) u hu⟩
theorem tB{d:au}{kvs:ae (Int×am)}{ep:Nat}{Q:am->ar->Prop}(hh:A.handled=none)(lo:(d==df)=false)(hd:s.heap.DictAt (cD prog w) d kvs ep)(h64:kvs.length < 64)
  (h:∀h' tk vs (o:au) (n:Nat),cw (nk (kvs.map (·.1))) vs->s.heap.get? o=none->h'.get? o=af {cls:= .type "list",dict:=none,data:= .seq vs.toArray n,slots:=#[]}->(∀b x,s.heap.get? b=af x->h'.get? b=af x)->Q (.ref o) {s with heap:=h',toks:=tk}):
  aH (aE prog w) A (call (.builtin "sorted") [.ref d]) Q E s:=by
 refine ng kind_sorted plain_sorted entry_sorted (args_sorted1 _) ?_
 unfold b7.«sorted»
 refine aj (m:=checkCount "sorted" 1 1 _) (aw ?_)
 refine aj (kdu_collect (A:=A.in1) (kdl_dict (knd:=cD prog w) (kvs:=kvs) (ep:=ep) lo) hh hd (by rw[dX]; omega) λ h' tk acc hk K5=>?_)
 have hl:acc.toList.length=kvs.length:=by rw[bf]; exact K5.1
 refine aj (wpAny_newList ?_ (by rw[hl,dX]; omega))
 have hI:cw (kvs.map (·.1)) acc.toList:=yO (prog:=prog) (w:=w) hl λ j v e=>K5.2 j v (by rw[← bL]; exact e)
 have Jy:(h'.push (seqObj "list" acc.toList.toArray 0)).get? h'.objs.size=af (seqObj "list" acc.toList.toArray 0):=aN _ rfl
 have K_:s.heap.get? h'.objs.size=none:=by
  cases e:s.heap.get? h'.objs.size with
  |none=>rfl
  |some o=>exact bt (b8 (hk _ _ e)) (fj _)
 refine aj (bS (cA slot_list_sort ⟨_,Jy,rfl⟩ entry_list_sort (list_sort_tree Jy hI.ints (by rw[hl]; exact h64) λ out A4 a1 a2 a3=>⟨_,rfl,?_⟩) (args_list_sort _)))
 obtain⟨n,hn⟩:=sortedHeap_at (vs:=acc.toList) (out:=out) Jy
 refine aw ⟨_,rfl,h _ tk out.toList h'.objs.size n (by rw[← eq_sortI a2 a3]; exact cw.G5 a1) K_ (by rw[DJ]; exact hn) λ b x q=>?_⟩
 have hb:=b8 (hk _ _ q)
 rw[sortedHeap_old (dN hb) (by rw[size_push']; exact Nat.lt_succ_of_lt hb)]
 exact aA _ (hk _ _ q)
end
section
variable{P:cC}{ct:Ct}
def Kx(o:AO)(K:ae Int->Prop):Prop:=match o with
 | .iM ks _=>K ks
 |_=>False
theorem Kx.u{o:AO}{K:ae Int->Prop}{Q:AO->Prop}(h:Kx o K)(k:∀ks vs,K ks->Q (.iM ks vs)):Q o:=by
 rcases o with _|_|_|_|⟨ks,vs⟩|_|_|_
 case iM=>exact k ks vs h
 all_goals exact h.elim
noncomputable def aaJ(o:AO):aq {c:ae Int // ∀K:ae Int->Prop,K c->Kx o K}:=match o with
 | .iM ks _=>af ⟨ks,λ aa z=>z⟩
 |_=>none
noncomputable def ab8(a:AV):aq {p:Nat // a= .own p}:=match a with
 | .own p=>af ⟨p,rfl⟩
 |_=>none
def sV:vO:=λ a σ K=>lA a λ p=>pB σ.mem p λ o=>Kx o λ ks=>cJ (bB ks.length 9) (K (.own σ.mem.length) ⟨σ.loc,σ.mem++[.il (nk ks)]⟩)
def OW(a:AV)(σ:St):aq {r:AV×St // tv (sV a σ) r}:=ob (ab8 a) λ p=>jK (bK σ.mem p.1) λ o ho=>ob (aaJ o) λ c=>bE (bB c.1.length 9) λ h=>af ⟨(.own σ.mem.length,⟨σ.loc,σ.mem++[.il (nk c.1)]⟩),λ K z=>p.2▸(dF ho (c.2 _ (cJ.i h z)):sV (.own p.1) σ K)⟩
theorem Q9{α β:Type}{k:ae α}{l:ae β}(e:l.length=k.length):(k.zip l).map (·.1)=k:=g_ (aT e.symm)
theorem I5:N4 P ct (.builtin "sorted") false sV:=λ F G ρ σ s Kv a v aa O R va h=>
 lA.u (Q:=λ a=>VR G ρ a v->WP P F.A (call (.builtin "sorted") [v] []) (PE F ct.aR G ρ Kv) s) h (λ p h va=>h.u λ o e h=>R.own va e (Q:=λ v=>WP P F.A (call (.builtin "sorted") [v] []) (PE F ct.aR G ρ Kv) s) λ adr ob jI h1 w=>Kx.u (Q:=λ o=>OR G ρ o ob->WP P F.A (call (.builtin "sorted") [.ref adr] []) (PE F ct.aR G ρ Kv) s) h (λ ks vs h w=>h.u λ hz h=>
  w.2.elim λ es w2=>w2.elim λ ep w2=>w2.elim λ us w2=>have z:=w2.2.1.pairs (prog:=P.prog) (w:=P.w)
   have hm:(ks.zip us).map (·.1)=ks:=Q9 z.2.2
   X.any (tB (kvs:=ks.zip us) (ep:=ep) O.room.2.2 (d9.mpr (As O R (im jI))) ⟨ob,es,h1,w.1,w2.1,λ e he=>z.2.1 e (gF.mpr he),z.1,hm.symm▸w2.2.2.2⟩
    (aS (aT ((bJ _).symm.trans (ah fU hm))) (aS (aP hz) (by decide)))
    λ h' tk rl o n hi ho1 T1 keep=>PE.E1 (ao:= .il (nk ks)) (s':={s with heap:=h',toks:=tk}) R ho1 T1 ⟨rl.toArray,⟨_,rfl⟩,(ah (λ l=>cw (nk l) rl) hm).mp hi⟩ keep ⟨rfl,rfl,rfl⟩ h)) w) va
def Ov:Bf P ct:=Rv "sorted" (.builtin "sorted") sV false (λ aa e=>nomatch e) I5 (WY OW) zN
def Nx(q:c7)(as:SL P ct)(p:c7):SE P ct:=xB Ov q as p
end
noncomputable def W8:ae aC->ae AV->ae AV
 |b::r,v::l=>aY b .undef v::W8 r l
 |[],l=>l
 |_::_,[]=>[]
theorem Gs:∀{b:ae aC} {l:ae AV} {i:Nat} {v:AV},(W8 b l)[i]?=af v->v≠ .undef->l[i]?=af v
 |true::b,x::r,0,v=>λ h n=>bt (ak h).symm n
 |false::b,x::r,0,v=>λ h aa=>h
 |_::b,x::r,i+1,v=>λ h n=>Gs (b:=b) (l:=r) (i:=i) h n
 |[],l,i,v=>λ h aa=>h
 |_::_,[],i,v=>λ h aa=>cu h
def UO(n:Nat)(m:ae AO):Fl->aq Fl
 | .d7=>af .d7
 | .ret v=>ob (lO n m 12 v) λ w=>af (.ret w)
def fzF(n:Nat)(fg:ae aC)(f:Fl)(σ:St):aq (Fl×St):=ob (UO n σ.mem f) λ f'=>ob (iZ (lO n σ.mem 12) (W8 fg σ.loc)) λ l=>ob (iZ (x8 n σ.mem 12) (QR n σ.mem)) λ m=>af (f',⟨l,m⟩)
def KU(n:Nat)(fg:ae aC)(K:Fl->St->Prop)(f:Fl)(σ:St):Prop:=Mj (fzF n fg f σ) λ r=>K r.1 r.2
section
variable{P:cC}{ct:Ct}
theorem UP{n k:Nat}{m:ae AO}{v w:AV}(h:lO n m (k+1) v=af w)(nv:w≠ .undef):v≠ .undef:=λ e=>nv (ak ((e▸h:lO n m (k+1) .undef=af w).symm.trans rfl))
theorem RF.fz{F:Fd}{G G':BM}{ρ τ:ae au}{σ bZ:St}{s s':ar}{fg:ae aC}{l:ae AV}{m:ae AO}(O:gH P ct F)(R:RF F ct.aR G ρ σ s)(R':RF F ct.aR G' (ρ++τ) bZ s')
  (hl:iZ (lO ρ.length bZ.mem 12) (W8 fg bZ.loc)=af l) (hm:iZ (x8 ρ.length bZ.mem 12) (QR ρ.length bZ.mem)=af m):RF F ct.aR (fR G' τ s'.heap) ρ ⟨l,m⟩ s':=
 have sys:Sys (ρ++τ):=λ a ha=>As O R' ha
 have T5 {a:au}:a∈ρ->a∈ρ++τ:=dx τ
 have nG {a:au} (g:G' a=none) (k:a∉ρ++τ):fR G' τ s'.heap a=none:=none_of λ o e=>(fR.of e).elim (de g) λ w=>k (dH _ w.1)
 {rm:=R'.rm.fz sys hm,ns:=R'.ns,
  loc:=λ i x v e e' nv=>(ve hl i v e').elim λ u w=>have nu:=UP w.2 nv; (R'.loc i x u e (Gs w.1 nu) nu).imp λ y z=>⟨sS R'.rm sys 12 u w.2 z.1,z.2⟩,
  lG:=nG R'.lG R'.A3,A3:=λ h=>R'.A3 (T5 h),cell:=λ x c e=>(R'.cell x c e).imp_right λ z=>⟨λ h=>z.1 (T5 h),z.2.1,λ k=>nG (z.2.2 k) z.1⟩,
  pY:=R'.pY,keep:=R'.keep,live:=R'.live,ext:=R.ext,nw:=λ a ha=>R'.nw a (T5 ha),B9:=R'.B9.trans fR.le,
  A2:=λ a o e=>(fR.of e).elim (R'.A2 a o) λ w=>(R'.nw a (dH _ w.1)).imp (λ c=>bt w.1 (zt R'.rm.nd (R.ext.mem c))) id,gz:=R'.gz}
theorem FR.fz{G:BM}{ρ τ:ae au}{m:ae AO}{h:Heap}(R:RM G (ρ++τ) m h)(sys:Sys (ρ++τ)){f f':Fl}{fl:mo}(e:UO ρ.length m f=af f')(r:FR G (ρ++τ) f fl):FR (fR G τ h) ρ f' fl:=by
 rcases f with _|v
 ·exact ak e▸r
 ·exact ob.u e λ w e1 e=>ak e▸r.imp λ u=> .imp_right (sS R sys 12 v e1)
noncomputable def M2(fg:ae aC)(b:SS P ct):SS P ct where
 bA:=b.bA
 run:=λ σ K=>b.run σ (KU σ.mem.length fg K)
 b_:=b.b_
 ok:=λ c F G ρ σ s Kv O R h=>X.mono (b.ok c F G ρ σ s _ O R h) λ f s' z=>z.u λ G' ρ' fl bZ g x R' fr k=>k.u λ r w k=>x.elim λ τ e=>ob.u w λ f' e1 h=>ob.u h λ l e2 h=>ob.u h λ m e3 h=>by
  subst e
  rw[← R.rm.len] at e1 e2 e3
  exact⟨_,ρ,f',⟨l,m⟩,g.trans fR.le,Ext.refl _,R.fz O R' e2 e3,FR.fz R'.rm (λ a ha=>As O R' ha) e1 fr,(ak h▸k:Kv (f',(⟨l,m⟩:St)).1 (f',(⟨l,m⟩:St)).2)⟩
end
noncomputable abbrev Sg(prog:aK)(w:bw)(A:bn)(c:vC)(t:ie Fin)(fs:ae Frame)(s:ar)(P:End->ar->Prop):Prop:=PySem.W.X.SegX (aE prog w) A c t fs s P
section
variable{prog:aK}{w:bw}{A:bn}{c:vC}{fs:ae Frame}{s:ar}{env:Env}{P:End->ar->Prop}
theorem qD{α:Type}{m:ie α}{K:α->ie Fin}{H:am->ie Fin}{gd:aC->aC}{lv:ae am->ae am}(h:aH (aE prog w) (A.over c fs) m (λ a s'=>Sg prog w A c (K a) fs s' P) dq s):Sg prog w A c (m.wrap K H gd lv) fs s P:=by
 rintro Γ p rfl NG
 obtain⟨e,s',hr,hq⟩:=runs_wrap_of_wp (Φ:=λ e s'=>e.quiet=true/\P e s') K H gd lv m (h (Γ.over fs) p (NG.over fs)) (λ a p' s' h'=>h' Γ p' rfl NG) (λ aa aa aa z=>z.elim)
 exact⟨e,s',hr,hq⟩
theorem sW{α β:Type}{m:ie α}{f:α->ie β}{K:β->ie Fin}{H:am->ie Fin}{gd:aC->aC}{lv:ae am->ae am}
  (h:aH (aE prog w) (A.over c fs) m (λ a s'=>Sg prog w A c ((f a).wrap K H gd lv) fs s' P) dq s):Sg prog w A c ((m>>=f).wrap K H gd lv) fs s P:=by
 rw[iW,jT]
 exact qD h
noncomputable abbrev Yr(env:Env)(K:mo->ie Fin)(H:am->ie Fin)(gd:aC->aC)(lv:ae am->ae am):iP->ie Fin:=λ r=>((match r with | .ok f=>(.pure f:ie mo) | .error e=> .raise e).onRaise λ(x:am)=>do
    if (← field x 1)==c8 then AT "frame.own-activation:exception-without-traceback"
    setFlight x env.frame).wrap K H gd lv
theorem U9{t it:aB}{b:ae fW}{pos:c7}{K:mo->ie Fin}{H:am->ie Fin}{gd:aC->aC}{lv:ae am->ae am}(hs:∀x,d_ it env x=pure x)
  (h:aH (aE prog w) (A.over c fs) (eval it env) (λ x s₁=>aH (aE prog w) (A.over c fs) (iz x) (λ i bp=>∀p,Sg prog w A (.forLoop t i b [] env) (denote table (.forLoop t i b [] env)) (.ret (Yr env K H gd lv) none (gd false) (lv []) c p []::fs) bp P) dq s₁) dq s):
  Sg prog w A c ((exec (.For t it b [] pos) env).wrap K H gd lv) fs s P:=by
 rw[exec_For]
 refine sW (hV ?_)
 refine sW (cZ h (λ x s₁ bH=>?_) λ aa aa z=>z)
 refine sW ?_
 rw[hs x]
 refine aw ?_
 refine sW (hV ?_)
 refine sW (bS (cZ bH (λ i bp cU=>?_) λ aa aa z=>z))
 exact PySem.W.X.s_call prog w A c fs P bp _ _ _ _ _ cU
noncomputable abbrev TH(env:Env):am->ie Fin:=λ e=>(do qJ e env; kW e:ie e7).wrap (λ aa=> .raise e) .raise id id
noncomputable abbrev TI(c:vC):mo->ie Fin:=λ f=>match f with
 | .next | .cont=> .pure (.again c)
 | .brk=> .pure (.done .next)
 | .ret v=> .pure (.done (.ret v))
theorem wZ{t:aB}{it:am}{b:ae fW}
  (h:aH (aE prog w) (A.over (.forLoop t it b [] env) fs) (gG it) (λ r s₁=>match r with
   |none=>Sg prog w A (.block [] env) (denote table (.block [] env)) fs s₁ P
   |some v=>aH (aE prog w) (A.over (.forLoop t it b [] env) fs) (du t it v) (λ aa bp=>aH (aE prog w) (A.over (.forLoop t it b [] env) fs) (assign t env v) (λ aa fS=>
     Sg prog w A (.forLoop t it b [] env) ((execs b env).wrap (TI (.forLoop t it b [] env)) (TH env) id id) fs fS P) dq bp) dq s₁) dq s):
  Sg prog w A (.forLoop t it b [] env) (denote table (.forLoop t it b [] env)) fs s P:=by
 show Sg prog w A _ ((forTurn t it b [] env).onRaise (λ x=>do qJ x env; kW x)) fs s P
 unfold forTurn
 rw[Ji]
 refine sW (hV ?_)
 refine sW (cZ (X.back (X.raises (X.any h))) (λ r s₁ bH=>?_) λ aa aa z=>z)
 cases r with
 |none=>exact rB prog w A _ fs P s₁ _ rfl bH
 |some v=>
  refine sW (cZ bH (λ aa bp cU=>sW (cZ cU (λ aa fS fE=>?_) λ aa aa z=>z)) λ aa aa z=>z)
  rw[iW,jT]
  rw[Sem.wrap_congr (execs b env) _ _ (K':=TI (.forLoop t it b [] env)) (H':=TH env)
    (λ f=>by cases f<;>rfl)
    (λ e=>by first|exact vF _ _|(show(do qJ e env; kW e:ie e7).bind (λ aa=> .raise e)=_; rw[vF]))]
  exact fE
theorem Aq{st:fW}{rest:ae fW}{K:mo->ie Fin}{H:am->ie Fin}{gd:aC->aC}{lv:ae am->ae am}
  (h:Sg prog w A c ((exec st env).wrap (λ f=>match f with | .next=>(execs rest env).wrap K H gd lv|f=>K f) H gd lv) fs s P):Sg prog w A c ((execs (st::rest) env).wrap K H gd lv) fs s P:=by
 rw[execs_cons_wrap]; exact h
theorem MY{e:aB}{yp pos:c7}{K:mo->ie Fin}{H:am->ie Fin}{gd:aC->aC}{lv:ae am->ae am}(hfs:splitAtGen fs=none)(hgd:gd false=false)(hfg:fs.any Frame.guarded=false)(NE:env.scope.isCoroutine=false)(hi:AQ env=false)
  (h:aH (aE prog w) (A.over c fs) (eval e env) (λ v s'=>∀p l k,k (.send .none)=K .next->P (.susp v false l k c p fs) s') dq s):Sg prog w A c ((exec (.Expr (.Yield (af e) yp) pos) env).wrap K H gd lv) fs s P:=by
 rw[exec_Expr env _ pos hi rfl]
 show Sg prog w A c (.at pos λ aa=>((eval e env>>=λ v=>(di yp>>=λ aa=>yieldOut env v))>>=λ x=>dropValue (.Yield (af e) yp) pos x).wrap K H gd lv) fs s P
 have hy:∀v,yieldOut env v=yieldValue v:=λ v=>by simp only[yieldOut,NE,s7,if_false]
 simp only[hy]
 refine qD (m:=di pos) (H:= .raise) (gd:=id) (lv:=id) (hV ?_)
 rw[iW,iW,jT,jT]
 refine qD (cZ h (λ v s' h'=>?_) λ aa aa x=>x)
 refine qD (m:=di yp) (H:= .raise) (gd:=id) (lv:=id) (hV ?_)
 show Sg prog w A c (.yield v (gd false) _ _) fs s' P
 rw[hgd]
 exact PySem.W.X.s_yield prog w A c fs P s' v _ _ hfs hfg λ p=>h' p _ _ rfl
end
section
variable{prog:aK}{w:bw}{A:bn}{E:am->ar->Prop}{s:ar}
def pQ(prog:aK)(w:bw)(A:bn)(gs:d6)(s:ar)(P:End->ar->Prop):Prop:=match gs with
 | .fresh c=>Sg prog w A c (denote table c) [] s P
 | .suspended k _ c _ fs _=>Sg prog w A c (k (.send .none)) fs s P
 |_=>False
theorem Pa{a:au}{g:Nat}{gs:d6}{Q:aq am->ar->Prop}(hh:A.handled=none)(hl:s.heap.NoLimit)(uj:A.depth < tg)(hg:s.heap.IsGen a g)(Jx:s.gens[g]?=af gs)
  (h:pQ prog w A.in1 gs (s.setGen g .running) (λ e s₁=>match e with
   | .ret r=>r= .ok (.ret .none)/\∀h',(∀b o,s₁.heap.get? b=af o->h'.get? b=af o)->Q none {s₁.setGen g .finished with heap:=h'}
   | .susp v gd l k c p fs=>Q (af v) (s₁.setGen g (End.susp v gd l k c p fs).genState))):aH (aE prog w) A (gG (.ref a)) Q E s:=by
 unfold gG
 have stop:∀{s₁:ar} {k:e7->ie Fin},(∀h',(∀b o,s₁.heap.get? b=af o->h'.get? b=af o)->Q none {s₁ with heap:=h'})->
   aH (aE prog w) A.in1 (DT (.type "StopIteration") []>>=λ e=>raiseNew e>>=k) (λ f s'=>∃v,f= .done (.ret v)/\Q (af v) s') (λ e s'=>s'.TypeIs e "StopIteration"/\Q none s') s₁:=λ{s₁ k} hq=>by
  refine aj ?_
  simp only[DT,newTuple]
  refine aj (cO ?_ (by size_fits))
  refine aj (m:=jF _ _) (bu (a:=c8) (by first|rfl|(simp only[jF]; rfl)) ?_)
  refine cO ?_ (by size_fits)
  refine aj (wpAny_raiseNew_none hh ⟨⟨_,aN _ rfl,rfl⟩,hq _ λ b o hb=>aA _ (aA _ hb)⟩)
 have wake:aH (aE prog w) A.in1 (Builtin.Generator.genWake (.ref a) (.send .none)) (λ f s'=>∃v,f= .done (.ret v)/\Q (af v) s') (λ e s'=>s'.TypeIs e "StopIteration"/\Q none s') s:=by
  unfold Builtin.Generator.genWake
  refine aj (bS (wpAny_genNumber hg (aj (wpAny_genState Jx ?_))))
  cases gs with
  |running=>exact h.elim
  |finished=>exact h.elim
  |fresh c=>
   refine aj (wpAny_roomToWake hl uj ?_)
   show aH _ _ (.resume g (.send .none) [] _) _ _ s
   refine Bc _ prog w Jx (.inl ⟨rfl,rfl,rfl,rfl⟩) (λ Γ=>Γ.In A.in1) (λ aa q=>q) (ef h λ e s₁ z=>?_)
   intro Γ p NG
   cases e with
   |ret r=>obtain⟨rfl,z⟩:=z; exact stop (s₁:=s₁.setGen g .finished) z Γ p NG
   |susp v gd l k c p' fs=>exact⟨v,rfl,z⟩
  |suspended abG abT c₀ acb adn cl=>
   refine aj (wpAny_roomToWake hl uj ?_)
   show aH _ _ (.resume g (.send .none) [] _) _ _ s
   refine Bc _ prog w Jx (.inr ⟨abG,abT,acb,cl,rfl,rfl⟩) (λ Γ=>Γ.In A.in1) (λ aa q=>q) (ef h λ e s₁ z=>?_)
   intro Γ p NG
   cases e with
   |ret r=>obtain⟨rfl,z⟩:=z; exact stop (s₁:=s₁.setGen g .finished) z Γ p NG
   |susp v gd l k c p' fs=>exact⟨v,rfl,z⟩
 refine aj (kP (c_ (name:=bR "__next__") hg.typeIs slot_gen_next
  (cA slot_gen_next hg.typeIs entry_gen_next (cZ wake (λ f s' h=>?_) λ e s' h=>?_) (args_gen_next _))))
 ·obtain⟨v,rfl,h⟩:=h
  exact⟨v,rfl,aw h⟩
 ·exact aj (eK (T:="StopIteration") (b:=true) h.1 DS (aw h.2))
end
structure JE(ct:Ct)(E:Env):Prop where
 kind:E.scope.kind= .function
 names:E.scope.names=ct.names
 glob:E.globals=dG
 blt:E.builtins=mq
 cells:E.cells=[]
 VP:∀x,ct.names.lookup x≠af .cell
 vh:ct.aR.Nodup
 ro:ct.ro=false
 tb:ct.tb=false
 cq:ct.cq=false
noncomputable def VK(A:bn)(E:Env)(G:BM)(s:ar):Fd:={A:=A,env:=E,h₀:=s.heap,gE:=[],G₀:=G,Z:=s,ro:=false}
abbrev KG(G:BM)(h:Heap):Prop:=∀a o,G a=af o->h.get? a=af o
section
variable{P:cC}{ct:Ct}{A:bn}{E:Env}{G:BM}{s:ar}
theorem JE.Z8{Q:Prop}(g:JE ct E){x:bM}{c:au}(e:E.cells.lookup x=af c):Q:=cu ((ah (·.lookup x) g.cells).symm.trans e)
theorem JE.fok(g:JE ct E)(room:my A P.d)(i7:P.Φ G):gH P ct (VK A E G s):=
 ⟨g.kind,g.names,g.glob,g.blt,room,i7,g.vh,g.ro.symm,λ x h=>bt h (g.VP x),λ e=>ay (g.tb.symm.trans e),λ e=>ay (g.cq.symm.trans e)⟩
abbrev NsL(E:Env)(aR:ae bM)(G:BM)(loc:ae AV)(m:bM->aq am):Prop:=∀(i:Nat) (x:bM) (v:AV),aR[i]?=af x->loc[i]?=af v->v≠ .undef->∃u,VR G [] v u/\E.kindOf x=af .local/\m x=af u
def NB(E:Env)(aR:ae bM)(G:BM)(loc:ae AV)(h:Heap):Prop:=∃m,h.Ns E.locals m/\NsL E aR G loc m
theorem zn{h h':Heap}{a:au}{m:bM->aq am}(k:∀o,h.get? a=af o->h'.get? a=af o):h.Ns a m->h'.Ns a m:= .imp λ o=> .imp λ aa=> .imp λ aa=> .imp_left (k o)
theorem NB.keep{aR:ae bM}{loc:ae AV}{h h':Heap}(k:∀o,h.get? E.locals=af o->h'.get? E.locals=af o):NB E aR G loc h->NB E aR G loc h':= .imp λ aa=> .imp_left (zn k)
theorem NB.al{aR:ae bM}{loc:ae AV}{h:Heap}(n:NB E aR G loc h):∃o,h.get? E.locals=af o:=n.elim λ aa n=>n.1.imp λ aa h=>h.elim λ aa h=>h.elim λ aa h=>h.1
theorem NV{h:Heap}{a:au}{m m':bM->aq am}(x:h.Ns a m)(y:h.Ns a m'):m=m':=by
 obtain⟨o,es,ep,ho,hd,hk,hf⟩:=x
 obtain⟨o',A0,Jw,EF,K8,ZW,hf'⟩:=y
 cases ho.symm.trans EF
 cases hd.symm.trans K8
 exact funext λ x=>(hf x).symm.trans (hf' x)
theorem JE.rf(g:JE ct E){loc:ae AV}(kg:KG G s.heap)(ns:NB E ct.aR G loc s.heap)(lG:G E.locals=none):RF (VK A E G s) ct.aR G [] ⟨loc,[]⟩ s:=
 ⟨⟨kg,rfl,λ i a ao h=>cu h,f8,λ a h=>(nomatch h)⟩,ns.imp λ aa=>eD,λ i x v e e' n=>ns.elim λ m z=>(z.2 i x v e e' n).imp λ u q=>⟨q.1, .inl ⟨q.2.1,m,z.1,q.2.2⟩⟩,lG,(λ h=>nomatch h),λ x c e=>g.Z8 e,λ x y c e=>g.Z8 e,
  λ a o aa aa e=>e,λ a o e=>⟨o,e⟩,Ext.refl _,(λ a h=>nomatch h),dC.refl _,λ a o e=> .inl e,GZ.of ⟨rfl,rfl,rfl⟩⟩
theorem JE.back(g:JE ct E){G':BM}{bZ:St}{s':ar}(R:RF (VK A E G s) ct.aR G' [] bZ s'):NB E ct.aR G' bZ.loc s'.heap:=
 R.ns.imp λ m hm=>⟨hm,λ i x v e e' n=>(R.loc i x v e e' n).imp λ u q=>⟨q.1,q.2.elim (λ a=>⟨a.1,a.2.elim λ m' z=>(congrFun (NV hm z.1) x).trans z.2⟩) λ a=>a.2.elim λ c z=>g.Z8 z.1⟩⟩
theorem JE.free(g:JE ct E){d:au}(h:d≠E.locals):(VK A E G s).free d:=⟨h,λ aa y aa q=>g.Z8 q⟩
end
theorem X.Ru{α:Type}{J:aC}{M:ir}{A:bn}{t:ie α}{Q:α->ar->Prop}{s:ar}(hj:J=false)(h:cK J M A t Q s):aH M A t Q (λ aa aa=>False) s:=X.back (hj▸h)
section
variable{P:cC}{ct:Ct}{F:Fd}{G:BM}{s:ar}{l l':ae AV}
theorem SE.ON(e:SE P ct)(hj:P.j=false)(c:e.b_=true)(O:gH P ct F)(R:RF F ct.aR G [] ⟨l,[]⟩ s){V:AV}(run:∀K:AV->St->Prop,K V ⟨l',[]⟩->e.run ⟨l,[]⟩ K){Q:am->ar->Prop}
  (k:∀G' v s',dC G G'->RF F ct.aR G' [] ⟨l',[]⟩ s'->VR G' [] V v->Q v s'):aH (aE P.prog P.w) F.A (eval e.bA F.env) Q dq s:=
 cZ (X.Ru hj (e.ok c F G [] _ s (λ v σ=>v=V/\σ=⟨l',[]⟩) O R (run _ ⟨rfl,rfl⟩))) (λ v s' z=>z.u λ G' ρ' av bZ le aa R va h=>have R:RF F ct.aR G' ρ' ⟨l',[]⟩ s':=h.2▸R
  have er:ρ'=[]:=cX.mp R.rm.len; k G' v s' le (er▸R) (er▸h.1▸va)) λ aa aa z=>z
theorem SX.ON(e:SX P ct)(hj:P.j=false)(c:e.b_=true)(O:gH P ct F)(R:RF F ct.aR G [] ⟨l,[]⟩ s)(run:∀K:Fl->St->Prop,K .d7 ⟨l',[]⟩->e.run ⟨l,[]⟩ K){Q:mo->ar->Prop}
  (k:∀G' s',dC G G'->RF F ct.aR G' [] ⟨l',[]⟩ s'->Q .next s'):aH (aE P.prog P.w) F.A (exec e.bA F.env) Q dq s:=
 cZ (X.Ru hj (e.ok c F G [] _ s (λ v σ=>v= .d7/\σ=⟨l',[]⟩) O R (run _ ⟨rfl,rfl⟩))) (λ f s' z=>z.u λ G' ρ' av bZ le aa R fr h=>have R:RF F ct.aR G' ρ' ⟨l',[]⟩ s':=h.2▸R
  have er:ρ'=[]:=cX.mp R.rm.len; (show f= .next from(h.1▸fr:FR G' ρ' .d7 f)).symm▸k G' s' le (er▸R)) λ aa aa z=>z
end
structure GQ(P:cC)(ct:Ct) where
 tp:c7
 yp:c7
 xp:c7
 fp:c7
 s0:SX P ct
 e1:SE P ct
 e:SE P ct
 a:AV
 b:AV
 c:AV
 cnt:Nat
 V:Nat->AV
structure GP(P:cC)(ct:Ct) extends GQ P ct where
 A:bn
 E:Env
noncomputable abbrev ZP:mo->ie Fin:=λ f=> .pure (.done (.ret (match f with | .ret v=>v|_=> .none)))
noncomputable abbrev ZO(env:Env):am->ie Fin:=λ e=>(leaving env e).wrap (λ aa=> .raise e) .raise id id
abbrev LC(env:Env)(body:ae fW)(p:c7):ae Frame:=[.ret (Yr env (λ f=>match f with | .next=>(execs [] env).wrap ZP (ZO env) id id|f=>ZP f) (ZO env) id id) none false [] (.func body env) p []]
noncomputable def Rx(s0:fW)(x:bM)(tp:c7)(e1 e:aB)(yp xp fp:c7):ae fW:=[s0, .For (.Name x tp) e1 [.Expr (.Yield (af e) yp) xp] [] fp]
namespace GQ
abbrev x{P:cC}{ct:Ct}(_:GQ P ct):bM:=G0 ct 3
variable{P:cC}{ct:Ct}(g:GQ P ct)
noncomputable def yl:ae fW:=[.Expr (.Yield (af g.e.bA) g.yp) g.xp]
def body:ae fW:=Rx g.s0.bA g.x g.tp g.e1.bA g.e.bA g.yp g.xp g.fp
noncomputable def lo(v:AV):ae AV:=[g.a,g.b,g.c,v]
structure Ok:Prop where
 hj:P.j=false
 c0:g.s0.b_=true
 c1:g.e1.b_=true
 ce:g.e.b_=true
 ct3:oZ ct 3 g.x=true
 hs:∀env y,d_ g.e1.bA env y=pure y
 NF:Builtin.Range.small 0 g.cnt 1=true
 YH:∀K:Fl->St->Prop,K .d7 ⟨g.lo .undef,[]⟩->g.s0.run ⟨[g.a,g.b, .undef, .undef],[]⟩ K
 YI:∀K:AV->St->Prop,K (.j6 0 g.cnt 1) ⟨g.lo .undef,[]⟩->g.e1.run ⟨g.lo .undef,[]⟩ K
 run:∀i:Nat,i < g.cnt->∀K:AV->St->Prop,K (g.V i) ⟨g.lo (.int i),[]⟩->g.e.run ⟨g.lo (.int i),[]⟩ K
end GQ
namespace GP
variable{P:cC}{ct:Ct}(g:GP P ct)
def lc(I:au):vC:= .forLoop (.Name g.x g.tp) (.ref I) g.yl [] g.E
def fc:vC:= .func g.body g.E
def lf(p:c7):ae Frame:=LC g.E g.body p
structure Ok:Prop extends GQ.Ok g.toGQ where
 fr:JE ct g.E
 Se:my (g.A.over g.fc []) P.d
 room:∀I p,my (g.A.over (g.lc I) (g.lf p)) P.d
 NE:g.E.scope.isCoroutine=false
structure Rest(G:BM)(I:au)(i:Nat)(pv:AV)(h:Heap):Prop where
 ns:NB g.E ct.aR G (g.lo pv) h
 lG:G g.E.locals=none
 iG:G I=none
 it:AM h I i ((g.cnt:Int) - i) 1
inductive Turn(V:AV)(G:BM)(s:ar)(I:au)(i:Nat)(q:c7)(en:End)(s':ar):Prop
 |mk (v:am) (l:ae am) (k:Resume->ie Fin) (p:c7) (G':BM) (e0:en= .susp v false l k (g.lc I) p (g.lf q)) (hk:k (.send .none)= .pure (.again (g.lc I))) (le:dC G G') (kg:KG G' s'.heap) (va:VR G' [] V v)
  (r:g.Rest G' I (i+1) (.int i) s'.heap) (kp:∀b o,b≠g.E.locals->b≠I->s.heap.get? b=af o->s'.heap.get? b=af o) (nw:∀a o,G' a=af o->G a=af o\/s.heap.get? a=none) (gz:GZ s s')
end GP
section
variable{P:cC}{ct:Ct}{g:GP P ct}{G:BM}{s s₁:ar}{I:au}{i:Nat}{q:c7}{pv:AV}
theorem Iq(k:g.Ok)(i7:P.Φ G)(hi:i < g.cnt)(kg:KG G s₁.heap)(r:g.Rest G I (i+1) pv s₁.heap)(iL:I≠g.E.locals)(kp:∀b o,b≠I->s.heap.get? b=af o->s₁.heap.get? b=af o)(zz:GZ s s₁){t:j_}:
  aH (aE P.prog P.w) (g.A.over (g.lc I) (g.lf q)) (assign (.Name g.x g.tp) g.E (.int i t)) (λ aa fS=>Sg P.prog P.w g.A (g.lc I) ((execs g.yl g.E).wrap (TI (g.lc I)) (TH g.E) id id) (g.lf q) fS (g.Turn (g.V i) G s I i q)) dq s₁:=by
 have O:=k.fr.fok (s:=s₁) (k.room I q) i7
 refine cZ ((xb (P:=P) 3 g.tp).ok k.ct3 _ G [] _ _ (.int i) _ (λ σ=>σ=⟨g.lo (.int i),[]⟩) O (k.fr.rf kg r.ns r.lG) VR.mA rfl) (λ aa bp z=>z.elim λ σ z=>?_) λ aa aa z=>z
 cases z.2
 refine Aq (MY rfl rfl rfl k.NE (by unfold AQ; rw[k.fr.kind]; rfl) ?_)
 exact g.e.ON k.hj k.ce O z.1 (k.run i hi) λ G' v fS le R va p l k' hk=>have keep:∀d o,d≠g.E.locals->s₁.heap.get? d=af o->fS.heap.get? d=af o:=λ d o hd=>R.keep d o (λ z=>nomatch z) (k.fr.free hd)
  ⟨v,l,k',p,G',rfl,hk,le,R.rm.kg,va,⟨k.fr.back R,R.lG,none_of λ o q=>(R.A2 I o q).elim (de r.iG) λ q=>de q r.it,keep I _ iL r.it⟩,λ d o n1 n2 q=>keep d o n1 (kp d o n2 q),
  λ d o q=>(R.A2 d o q).imp_right λ q=>none_of λ o' e=>(d0 (d=I)).elim (λ w=>de q (w▸r.it)) λ w=>de q (kp d o' w e),zz.trans R.gz⟩
theorem B5(k:g.Ok)(i7:P.Φ G)(hi:i < g.cnt)(kg:KG G s.heap)(r:g.Rest G I i pv s.heap)(iL:I≠g.E.locals):Sg P.prog P.w g.A (g.lc I) (denote table (g.lc I)) (g.lf q) s (g.Turn (g.V i) G s I i q):=
 wZ (Jm r.it (Int.sub_pos_of_lt (mQ.mpr hi)) λ h' it sb=>aw<|
  have kp:∀b o,b≠I->s.heap.get? b=af o->h'.get? b=af o:=sb.extBut
  Iq (s₁:={s with heap:=h',toks:=s.toks+1}) k i7 hi (λ a o q=>kp a o (λ z=>de r.iG (z▸q)) (kg a o q)) ⟨r.ns.keep (λ o=>kp _ o iL.symm),r.lG,r.iG,(show((i+1:Nat):Int)=i+1 from rfl)▸Int.sub_sub ..▸it⟩ iL kp (GZ.of ⟨rfl,rfl,rfl⟩))
end
section
variable{prog:aK}{w:bw}{A:bn}{fs:ae Frame}{s:ar}{env:Env}{Pe:End->ar->Prop}
theorem QC{body:ae fW}(h:Sg prog w A (.func body env) ((execs body env).wrap ZP (ZO env) id id) fs s Pe):Sg prog w A (.func body env) (denote table (.func body env)) fs s Pe:=by
 show Sg prog w A _ (.point [] λ aa=>((execs body env).onRaise (leaving env))>>=_) fs s Pe
 refine qD (m:=point) (H:= .raise) (gd:=id) (lv:=λ aa=>[]) (AU ?_)
 rw[Ji,iW,jT]
 rw[Sem.wrap_congr (execs body env) _ _ (K':=ZP) (H':=ZO env) (λ f=>by cases f<;>rfl) (λ e=>by rw[vF,jT]; rfl)]
 exact h
theorem Pb{t:aB}{I:au}{b body:ae fW}{p:c7}{i left:Int}(hh:(A.over (.forLoop t (.ref I) b [] env) (LC env body p)).handled=none)(it:AM s.heap I i left 1)(hl:left<=0):
  Sg prog w A (.forLoop t (.ref I) b [] env) (denote table (.forLoop t (.ref I) b [] env)) (LC env body p) s (λ en s'=>en= .ret (.ok (.ret .none))/\(∀d o,d≠I->s.heap.get? d=af o->s'.heap.get? d=af o)/\GZ s s'):=
 wZ (wpAny_pyNext_range_end hh it hl λ h' eb=>PySem.W.X.s_pop prog w A _ _ _ _ (.ok .next) _ rfl _ _ _ _ _ _ _ (PySem.W.X.s_end prog w A _ _ _ (.ok (.ret .none)) _ rfl ⟨rfl,λ d o n q=>eb d o n q,GZ.of ⟨rfl,rfl,rfl⟩⟩))
end
namespace GP
variable{P:cC}{ct:Ct}(g:GP P ct)
inductive Rb(G:BM)(s:ar)(en:End)(s':ar):Prop
 |mk (I:au) (q:c7) (v:am) (l:ae am) (k:Resume->ie Fin) (p:c7) (G':BM) (e0:en= .susp v false l k (g.lc I) p (g.lf q)) (hk:k (.send .none)= .pure (.again (g.lc I))) (le:dC G G') (kg:KG G' s'.heap) (va:VR G' [] (g.V 0) v)
  (r:g.Rest G' I 1 (.int (0:Nat)) s'.heap) (iL:I≠g.E.locals) (dead:s.heap.get? I=none) (kp:∀b o,b≠g.E.locals->s.heap.get? b=af o->s'.heap.get? b=af o) (nw:∀a o,G' a=af o->G a=af o\/s.heap.get? a=none) (gz:GZ s s')
end GP
section
variable{P:cC}{ct:Ct}{g:GP P ct}{G jn:BM}{s bp:ar}{q:c7}
theorem E_(n:Nat):Builtin.Range.rangeSize 0 (n:Int) 1=(n:Int):=by unfold Builtin.Range.rangeSize; simp; omega
noncomputable abbrev rIt(n:Nat):Obj:={cls:=cQ "range_iterator",data:=ib #[np 0,np (Builtin.Range.rangeSize 0 (n:Int) 1),np 1]}
theorem Ey(k:g.Ok)(i7:P.Φ G)(hc:0 < g.cnt)(R:RF (VK (g.A.over g.fc []) g.E G s) ct.aR jn [] ⟨g.lo .undef,[]⟩ bp):Sg P.prog P.w g.A (g.lc bp.heap.objs.size) (denote table (g.lc bp.heap.objs.size)) (g.lf q) {bp with heap:=bp.heap.push (rIt g.cnt)} (g.Rb G s):=by
 have dead:bp.heap.get? bp.heap.objs.size=none:=dd (cE _)
 have push:∀d o,bp.heap.get? d=af o->(bp.heap.push (rIt g.cnt)).get? d=af o:=λ d o q=>aA _ q
 have keep:∀d o,d≠g.E.locals->s.heap.get? d=af o->bp.heap.get? d=af o:=λ d o hd q=>R.keep d o (λ z=>nomatch z) (k.fr.free hd) q
 have ns:=k.fr.back R
 have r:g.Rest jn bp.heap.objs.size 0 .undef (bp.heap.push (rIt g.cnt)):=⟨ns.keep (push _),R.lG,R.rm.yd dead,(aN _ rfl).trans (ah (λ n=>af ({cls:=cQ "range_iterator",data:=ib #[np 0,np n,np 1]}:Obj)) ((E_ g.cnt).trans (Int.sub_zero _).symm))⟩
 exact ef (B5 (q:=q) k (P.mono _ _ R.B9 i7) hc (λ d o q=>push d o (R.rm.kg d o q)) r λ z=>ns.al.elim λ aa e=>de dead (z▸e)) λ en s' z=>by
  rcases z with⟨v,l,k',p,G',e0,hk,le,kg,va,r,kp,nw,gz⟩
  exact⟨_,q,v,l,k',p,G',e0,hk,R.B9.trans le,kg,va,r,λ z=>ns.al.elim λ aa e=>de dead (z▸e),R.dead dead,λ d o n q=>kp d o n (λ w=>de (R.dead dead) (w▸q)) (push d o (keep d o n q)),
   λ d o q=>(nw d o q).elim (R.A2 d o) λ q=> .inr (R.dead (none_of λ o e=>de q (push d o e))),R.gz.trans ((GZ.of ⟨rfl,rfl,rfl⟩).trans gz)⟩
theorem Io(k:g.Ok)(i7:P.Φ G)(hc:0 < g.cnt)(kg:KG G s.heap)(ns:NB g.E ct.aR G [g.a,g.b, .undef, .undef] s.heap)(lG:G g.E.locals=none):Sg P.prog P.w g.A g.fc (denote table g.fc) [] s (g.Rb G s):=by
 have O:gH P ct (VK (g.A.over g.fc []) g.E G s):=k.fr.fok k.Se i7
 exact QC (Aq (qD (g.s0.ON k.hj k.c0 O (k.fr.rf kg ns lG) k.YH λ dU s₁ adX dQ=>Aq (U9 (k.hs _) (g.e1.ON k.hj k.c1 O dQ k.YI λ jn v bp adY gJ va=>
  aD va λ r h=>h.elim λ aa h=>h.elim λ aa h=>h.elim λ aa h=>h.1▸wpAny_pyIter_range (gJ.rm.kg _ _ h.2) k.NF λ p=>Ey k i7 hc gJ)))))
end
section
variable{F:Fd}{ct:Ct}{G G':BM}{ρ:ae au}{σ:St}{s s':ar}
theorem RF.M4(R:RF F ct.aR G ρ σ s){Ex:au->Prop}(g:dC G G')(M:RM G' ρ σ.mem s'.heap)(gn:∀a o,G' a=af o->G a=af o\/s.heap.get? a=none)(kp:∀a o,¬Ex a->s.heap.get? a=af o->s'.heap.get? a=af o)
  (ex:∀a,Ex a->a≠F.env.locals/\(∀x,F.env.cells.lookup x≠af a)/\F.h₀.get? a=none) (z:GZ F.Z s'):RF F ct.aR G' ρ σ s':=
 have kL:∀o,s.heap.get? F.env.locals=af o->s'.heap.get? F.env.locals=af o:=λ o=>kp _ o λ q=>(ex _ q).1 rfl
 have kc:∀y c o,F.env.cells.lookup y=af c->s.heap.get? c=af o->s'.heap.get? c=af o:=λ y c o e=>kp c o λ w=>(ex _ w).2.1 y e
 have B_:∀a,G a=none->(∃o,s.heap.get? a=af o)->G' a=none:=λ a n y=>none_of λ o q=>(gn _ _ q).elim (de n) λ q=>y.elim λ aa=>de q
 {rm:=M,ns:=R.ns.imp λ aa=>zn kL,loc:=λ i x' v e e' n=>(R.loc i x' v e e' n).imp λ aa=> .imp (VR.up g (Ext.refl _) v) (At.keeps · kL kc),lG:=B_ _ R.lG R.lo,A3:=R.A3
  cell:=λ x' c e=>have h:=R.cell x' c e; ⟨h.1,h.2.1,h.2.2.1.imp λ aa=> .imp λ o=> .imp_left (kc x' c o e),λ k=>B_ c (h.2.2.2 k) (R.co e)⟩,pY:=R.pY
  keep:=λ a o n f e=>kp a o (λ w=>de (ex a w).2.2 e) (R.keep a o n f e),live:=λ a o e=>(R.live a o e).imp λ o'=>kp a o' λ w=>de (ex a w).2.2 e,ext:=R.ext,nw:=R.nw,B9:=R.B9.trans g
  A2:=λ a o e=>(gn a o e).elim (R.A2 a o) λ q=> .inr (R.dead q),gz:=z}
noncomputable def BM.or(G G':BM):BM:=λ a=>match G a with
 |some o=>af o
 |none=>G' a
theorem BM.UB(G G':BM):dC G (G.or G'):=λ a o e=>by unfold BM.or; rw[e]
theorem BM.or_none{a:au}(e:G a=none):G.or G' a=G' a:=by unfold BM.or; rw[e]
theorem BM.Mk{a:au}{o:Obj}(h:(G.or G') a=af o):G a=af o\/(G a=none/\G' a=af o):=by
 rcases e:G a with _|o'
 ·exact .inr ⟨rfl,(BM.or_none e).symm.trans h⟩
 ·exact .inl ((BM.UB G G' a o' e).symm.trans h)
theorem BM.ab6{h:Heap}(k:KG G h)(k':KG G' h):dC G' (G.or G'):=λ a o e=>by
 rcases q:G a with _|o'
 ·exact(BM.or_none q).trans e
 ·exact(BM.UB G G' a o' q).trans ((k a o' q).symm.trans (k' a o e))
structure aaj(F:Fd)(ct:Ct)(G G':BM)(ρ:ae au)(σ:St)(s s':ar):Prop where
 R:RF F ct.aR (G.or G') ρ σ s'
 l:dC G (G.or G')
 r:dC G' (G.or G')
 M3:∀a o,s.heap.get? a=af o->G a=none->(G.or G') a=none
theorem RF.gen(R:RF F ct.aR G ρ σ s){Gg:BM}{Ex:au->Prop}(le:dC Gg G)(Z5:KG G' s'.heap)(nw:∀a o,G' a=af o->Gg a=af o\/s.heap.get? a=none)(kp:∀a o,¬Ex a->s.heap.get? a=af o->s'.heap.get? a=af o)
  (ex:∀a,Ex a->Loose F G ρ s a) (z:GZ F.Z s'):aaj F ct G G' ρ σ s s':=
 have kg:KG G s'.heap:=λ a o e=>kp a o (λ w=>de (ex a w).G e) (R.rm.kg a o e)
 have l:=BM.UB G G'
 have M3:∀a o,s.heap.get? a=af o->G a=none->(G.or G') a=none:=λ a o e n=>none_of λ o' q=>(BM.Mk q).elim (de n) λ q=>(nw a o' q.2).elim (λ q=>de n (le a o' q)) λ q=>de q e
 ⟨R.M4 (Ex:=Ex) l ⟨λ a o e=>(BM.Mk e).elim (kg a o) λ q=>Z5 a o q.2,R.rm.len,λ i a ao hi e=>(R.rm.obj i a ao hi e).imp λ o=> .imp (kp a o λ w=>(ex a w).ρ (im hi)) (OR.up l (Ext.refl _)),R.rm.nd,λ a ha=>(R.rm.some_of ha).elim λ o ho=>M3 a o ho (R.rm.fr a ha)⟩
  (λ a o e=>(BM.Mk e).elim .inl λ q=>(nw a o q.2).imp_left (le a o)) kp (λ a w=>have e:=ex a w; ⟨e.L,e.c,e.h⟩) z,l,BM.ab6 kg Z5,M3⟩
end
inductive V3(V:AV)(G:BM)(Ex:au->Prop)(R:d6->BM->(au->Prop)->Heap->Prop)(s:ar)(e:End)(s':ar):Prop
 |mk (v:am) (l:ae am) (k:Resume->ie Fin) (c:vC) (p:c7) (fs:ae Frame) (G':BM) (NR:au->Prop) (e0:e= .susp v false l k c p fs) (bare:e.genState.bare=true) (le:dC G G') (kg:KG G' s'.heap) (va:VR G' [] V v) (nw:∀a o,G' a=af o->G a=af o\/s.heap.get? a=none)
  (kp:∀b o,¬Ex b->s.heap.get? b=af o->s'.heap.get? b=af o) (ex':∀b,NR b->(Ex b\/s.heap.get? b=none)/\G' b=none/\∃o,s'.heap.get? b=af o) (gz:GZ s s') (r:R e.genState G' NR s'.heap)
structure V0(Ex:au->Prop)(s:ar)(e:End)(s':ar):Prop where
 e:e= .ret (.ok (.ret .none))
 kp:∀b o,¬Ex b->s.heap.get? b=af o->s'.heap.get? b=af o
 gz:GZ s s'
noncomputable def qY(prog:aK)(w:bw)(A:bn):ae AV->d6->BM->(au->Prop)->Heap->Prop
 |[],gs,G,Ex,h₀=>∀s:ar,KG G s.heap->(∀b,Ex b->s.heap.get? b=h₀.get? b)->pQ prog w A gs s (V0 Ex s)
 |V::r,gs,G,Ex,h₀=>∀s:ar,KG G s.heap->(∀b,Ex b->s.heap.get? b=h₀.get? b)->pQ prog w A gs s (V3 V G Ex (qY prog w A r) s)
section
variable{P:cC}{ct:Ct}{g:GP P ct}
noncomputable def Tj(V:Nat->AV)(i:Nat):Nat->ae AV
 |0=>[]
 |n+1=>V i::Tj V (i+1) n
abbrev GP.ex(g:GP P ct)(I:au):au->Prop:=λ d=>d=g.E.locals\/d=I
theorem GP.Rest.al{G:BM}{I:au}{i:Nat}{pv:AV}{h:Heap}(r:g.Rest G I i pv h){d:au}(hd:g.ex I d):G d=none/\∃o,h.get? d=af o:=hd.elim (λ e=>e▸⟨r.lG,r.ns.al⟩) λ e=>e▸⟨r.iG,_,r.it⟩
theorem GP.Rest.same{G:BM}{I:au}{i:Nat}{pv:AV}{h h':Heap}(r:g.Rest G I i pv h)(e:∀b,g.ex I b->h'.get? b=h.get? b):g.Rest G I i pv h':=⟨r.ns.keep λ o q=>(e _ (.inl rfl)).trans q,r.lG,r.iG,(e I (.inr rfl)).trans r.it⟩
theorem B4(k:g.Ok){I:au}{q:c7}(iL:I≠g.E.locals):∀(n i:Nat) (h₀:Heap) (G:BM) (pv:AV) (l:ae am) (k':Resume->ie Fin) (p:c7) (cl:aC),i+n=g.cnt->P.Φ G->k' (.send .none)= .pure (.again (g.lc I))->g.Rest G I i pv h₀->
   qY P.prog P.w g.A (Tj g.V i n) (.suspended k' l (g.lc I) p (g.lf q) cl) G (g.ex I) h₀
 |0,i,h₀,G,pv,l,k',p,cl=>λ hn i7 hk r s kg hE=>by
  show Sg P.prog P.w g.A _ (k' (.send .none)) _ s _
  rw[hk]
  exact rB P.prog P.w g.A _ _ _ s _ rfl (ef (Pb (k.room I q).2.2 (r.same hE).it (Int.sub_nonpos_of_le (pH.mpr (aT hn.symm)))) λ en s' z=>⟨z.1,λ d o hd w=>z.2.1 d o (λ z=>hd (.inr z)) w,z.2.2⟩)
 |n+1,i,h₀,G,pv,l,k',p,cl=>λ hn i7 hk r s kg hE=>by
  show Sg P.prog P.w g.A _ (k' (.send .none)) _ s _
  rw[hk]
  refine rB P.prog P.w g.A _ _ _ s _ rfl (ef (B5 k i7 (hn▸DB (uG n)) kg (r.same hE) iL) λ en s' z=>?_)
  rcases z with⟨v,l',k'',p',G',rfl,e2,le,kg,va,r,kp,nw,gz⟩
  exact⟨v,l',k'',_,p',_,G',g.ex I,rfl,rfl,le,kg,va,nw,λ d o hd w=>kp d o (λ z=>hd (.inl z)) (λ z=>hd (.inr z)) w,λ d hd=>⟨.inl hd,r.al hd⟩,gz,B4 k iL n (i+1) s'.heap G' (.int i) l' k'' p' _ ((oz i n).trans hn) (P.mono _ _ le i7) e2 r⟩
theorem Ip(k:g.Ok){n:Nat}(hn:g.cnt=n+1){G:BM}(i7:P.Φ G){h₀:Heap}(ns:NB g.E ct.aR G [g.a,g.b, .undef, .undef] h₀)(lG:G g.E.locals=none):qY P.prog P.w g.A (Tj g.V 0 (n+1)) (.fresh g.fc) G (λ d=>d=g.E.locals) h₀:=λ s kg hE=>by
 refine ef (Io k i7 (hn▸uG n) kg (ns.keep λ o q=>(hE _ rfl).trans q) lG) λ en s' z=>?_
 rcases z with⟨I,q,v,l,k',p,G',rfl,e2,le,kg,va,r,iL,dead,kp,nw,gz⟩
 exact⟨v,l,k',_,p,_,G',g.ex I,rfl,rfl,le,kg,va,nw,kp,λ d hd=>⟨hd.imp_right λ(e:d=I)=>e▸dead,r.al hd⟩,gz,B4 k iL n 1 s'.heap G' (.int (0:Nat)) l k' p _ ((Nat.add_comm 1 n).trans hn.symm) (P.mono _ _ le i7) e2 r⟩
end
theorem qY.aaH{prog:aK}{w:bw}{A:bn}{rest:ae AV}{gs:d6}{G:BM}{Ex:au->Prop}{h₀ bH:Heap}(e:∀b,Ex b->bH.get? b=h₀.get? b)(H:qY prog w A rest gs G Ex h₀):qY prog w A rest gs G Ex bH:=by
 rcases rest with _|⟨V,r⟩
 ·exact λ s kg hE=>H s kg λ b hb=>(hE b hb).trans (e b hb)
 ·exact λ s kg hE=>H s kg λ b hb=>(hE b hb).trans (e b hb)
theorem K4{Z s s₁:ar}{g:Nat}{gs x y:d6}(z:GZ Z s)(hz:Z.gens[g]?=none)(hg:s.gens[g]?=af gs)(z1:GZ (s.setGen g x) s₁)(bx:x.bare=true)(bY:y.bare=true):GZ Z (s₁.setGen g y)/\(s₁.setGen g y).gens[g]?=af y:=
 have h1:(s.setGen g x).gens[g]?=af x:=setGen_self hg
 have h3:(s₁.setGen g y).gens[g]?=af y:=setGen_self (z1.1.1 g x h1)
 have o1:=GenOnly.setGen s g x
 have o2:=GenOnly.setGen s₁ g y
 ⟨⟨⟨λ i v e=>have ni:i≠g:=λ q=>de hz (q▸e); (o2.2 i ni).trans (z1.1.1 i v ((o1.2 i ni).trans (z.1.1 i v e))),λ hb=>(GenOnlyQ.of o2 h3 bY).bare (z1.1.2 ((GenOnlyQ.of o1 h1 bx).bare (z.1.2 hb)))⟩,Eq.trans (show s₁.os=s.os from z1.2) z.2⟩,h3⟩
theorem pQ.mono{prog:aK}{w:bw}{A:bn}{gs:d6}{s:ar}{P P':End->ar->Prop}(h:pQ prog w A gs s P)(k:∀e s',P e s'->P' e s'):pQ prog w A gs s P':=by
 rcases gs with _|_|_|_
 case fresh=>exact ef h k
 case suspended=>exact ef h k
 all_goals exact h.elim
section
variable{F:Fd}{ct:Ct}{G Gg:BM}{ρ:ae au}{σ:St}{s s₁:ar}{a:au}{g:Nat}{gs:d6}{Ex:au->Prop}{V:AV}{Rl:d6->BM->(au->Prop)->Heap->Prop}{en:End}
theorem vL{h h':Heap}(k:∀o,h.get? a=af o->h'.get? a=af o):h.IsGen a g->h'.IsGen a g:= .imp λ o=> .imp λ aa=> .imp λ aa=> .imp_left (k o)
structure NS(F:Fd)(ct:Ct)(G:BM)(ρ:ae au)(σ:St)(s:ar)(a:au)(g:Nat)(gs:d6)(Gg:BM)(Ex:au->Prop):Prop where
 R:RF F ct.aR G ρ σ s
 ig:s.heap.IsGen a g
 La:Loose F G ρ s a
 nE:¬Ex a
 Jx:s.gens[g]?=af gs
 le:dC Gg G
 LE:∀b,Ex b->Loose F G ρ s b
theorem NS.stop(x:NS F ct G ρ σ s a g gs Gg Ex)(hz:F.Z.gens[g]?=none)(z:V0 Ex (s.setGen g .running) en s₁){h':Heap}(keep:∀b o,s₁.heap.get? b=af o->h'.get? b=af o):RF F ct.aR G ρ σ {s₁.setGen g .finished with heap:=h'}:=
 have kp:∀d o,¬Ex d->s.heap.get? d=af o->h'.get? d=af o:=λ d o n q=>keep d o (z.kp d o n q)
 x.R.M4 (Ex:=Ex) (dC.refl _) ⟨λ d o q=>kp d o (λ w=>de (x.LE d w).G q) (x.R.rm.kg d o q),x.R.rm.len,λ i d ao hi q=>(x.R.rm.obj i d ao hi q).imp λ o=> .imp_left (kp d o λ w=>(x.LE d w).ρ (im hi)),x.R.rm.nd,x.R.rm.fr⟩ (λ aa aa q=> .inl q) kp
  (λ d w=>have l:=x.LE d w; ⟨l.L,l.c,l.h⟩) (K4 (y:= .finished) x.R.gz hz x.Jx z.gz rfl rfl).1
inductive aai(F:Fd)(ct:Ct)(G:BM)(ρ:ae au)(σ:St)(a:au)(g:Nat)(V:AV)(Rl:d6->BM->(au->Prop)->Heap->Prop)(en:End)(s₁:ar):Prop
 |mk (v:am) (l:ae am) (k:Resume->ie Fin) (c:vC) (p:c7) (fs:ae Frame) (gs:d6) (dU G':BM) (NR:au->Prop) (e0:en= .susp v false l k c p fs) (e1:gs=(End.susp v false l k c p fs).genState) (at_:NS F ct dU ρ σ (s₁.setGen g gs) a g gs G' NR) (le:dC G dU) (va:VR dU ρ V v) (r:Rl gs G' NR s₁.heap)
theorem NS.mid(x:NS F ct G ρ σ s a g gs Gg Ex)(hz:F.Z.gens[g]?=none)(z:V3 V Gg Ex Rl (s.setGen g .running) en s₁):aai F ct G ρ σ a g V Rl en s₁:=by
 rcases z with⟨v,l,k',c,p,fs,G',NR,e0,bare,z1,Z5,vV,nw,kp,ex',zz,r⟩
 have gz:=K4 (y:=en.genState) x.R.gz hz x.Jx zz rfl bare
 have w:=x.R.gen (s':=s₁.setGen g en.genState) (Ex:=Ex) x.le Z5 nw kp x.LE gz.1
 exact x.La.al.elim λ oa RR=>⟨v,l,k',c,p,fs,_,_,G',NR,e0,ah End.genState e0,⟨w.R,vL (λ o=>kp a o x.nE) x.ig,⟨x.La.ρ,w.M3 a oa RR x.La.G,x.La.h,x.La.L,x.La.c,oa,kp a oa x.nE RR⟩,
  λ q=>(ex' a q).1.elim x.nE λ q=>de q RR,gz.2,w.r,λ d q=>have y:=ex' d q; y.1.elim (λ q=>have L:=x.LE d q; L.al.elim λ od hod=>⟨L.ρ,w.M3 d od hod L.G,L.h,L.L,L.c,y.2.2⟩)
   λ q=>have L:=x.R.loose (s':=s₁.setGen g en.genState) q y.2.2; ⟨L.ρ,(BM.or_none L.G).trans y.2.1,L.h,L.L,L.c,y.2.2⟩⟩,w.l,vV.up w.r ⟨ρ,rfl⟩,r⟩
theorem NS.over(x:NS F ct G ρ σ s a g gs Gg Ex){G':BM}{ρ':ae au}{bZ:St}(le:dC G G')(R:RF (F.now G ρ s) ct.aR G' ρ' bZ s₁):NS F ct G' ρ' bZ s₁ a g gs Gg Ex/\∀d,Ex d->s₁.heap.get? d=s.heap.get? d:=
 have y:=x.R.over x.La R
 ⟨⟨y.1,vL y.2.2 x.ig,y.2.1,x.nE,R.gz.1.1 g gs x.Jx,x.le.trans le,λ d w=>(x.R.over (x.LE d w) R).2.1⟩,λ d w=>(x.LE d w).al.elim λ o e=>((x.R.over (x.LE d w) R).2.2 o e).trans e.symm⟩
end
section
variable{P:cC}{ct:Ct}
inductive V2(t:TG P ct)(b:SS P ct)(F:Fd)(G₀:BM)(gE:ae au)(Kv:Fl->St->Prop)(a:au)(g:Nat)(n:Nat)(s:ar):Prop
 |mk (rest:ae AV) (k:Nat) (G:BM) (ρ:ae au) (σ:St) (gs:d6) (Gg:BM) (Ex:au->Prop) (g0:dC G₀ G) (x0:Ext gE ρ) (at_:NS F ct G ρ σ s a g gs Gg Ex) (GL:qY P.prog P.w F.A.in1 rest gs Gg Ex s.heap) (h:jo t.set b.run n (.fz k rest) σ Kv)
theorem O_{t:TG P ct}{b:SS P ct}(Jv:t.b_=true)(tn:t.lp=true)(cb:b.b_=true){F:Fd}(O:gH P ct F){G₀:BM}{gE:ae au}{Kv:Fl->St->Prop}{a:au}{g:Nat}(hz:F.Z.gens[g]?=none)(n:Nat)(s:ar)(i:V2 t b F G₀ gE Kv a g n s):
  dO P.j (aE P.prog P.w) F.A (.forLoop t.bA (.ref a) b.bA [] F.env) (λ r s'=>match r with | .ok f=>PF F ct.aR G₀ gE Kv f s' | .error _=>False) s:=by
 refine X.forLoop (V2 t b F G₀ gE Kv a g) (λ n s i=>?_) n i
 rcases i with⟨rest,k,G,ρ,σ,gs,Gg,Ex,g0,x0,at_,GL,h⟩
 rcases n with _|n
 ·exact h.elim
 refine at_.R.AA O λ B tp lo mg mb aa b2 b3=>X.any (Pa O.room.2.2 (b2.nolimit.keeps b3) (aS (bq _ _) (b9 O.room.1 (by decide))) at_.ig at_.Jx ?_)
 have kgs:KG Gg (s.setGen g .running).heap:=λ a o q=>at_.R.rm.kg a o (at_.le a o q)
 rcases rest with _|⟨V,r⟩
 ·refine pQ.mono (GL _ kgs λ aa aa=>rfl) λ e s₁ z=>?_
  cases z.e
  exact⟨rfl,λ h' keep=>PF.d7 g0 x0 (at_.stop hz z keep) h⟩
 ·refine pQ.mono (GL _ kgs λ aa aa=>rfl) λ e s₁ z=>?_
  rcases at_.mid hz z with⟨v,l,k',c,p,fs,p6,dU,G',NR,e0,e1,F6,le,va,GL'⟩
  subst e0
  dsimp only
  rw[← e1]
  refine X.any (t.go F.A (s₁.setGen g p6) a v _ (.inl tn) (X.any (cZ (t.ok Jv (F.now dU ρ (s₁.setGen g p6)) dU ρ σ _ V v _ (O.now F6.R) F6.R.now va h) (λ aa bp z=>z.elim λ aI z=>?_) λ aa aa z=>z)))
  refine X.mono (b.ok cb (F.now dU ρ (s₁.setGen g p6)) dU ρ aI bp _ (O.now F6.R) z.1 z.2) λ f fS z=>z.u λ rJ kZ fl dz ku kJ lu fr fE=>?_
  have o:=F6.over ku lu
  rcases fl with _|v'
  ·cases(show f= .next from fr)
   exact⟨n,jm n,r,k+1,rJ,kZ,dz,p6,G',NR,g0.trans (le.trans ku),x0.trans kJ,o.1,GL'.aaH o.2,fE⟩
  ·obtain⟨u,rfl,vu⟩:=fr
   exact⟨rJ,kZ, .ret v',dz,g0.trans (le.trans ku),x0.trans kJ,o.1.R,⟨u,rfl,vu⟩,fE⟩
end
section
variable{prog:aK}{w:bw}{A:bn}{s:ar}
theorem KX{f:au}{o:Obj}{fd:d5}{body:ae fW}{vals:ae am}{binds:ae (bM×am)}{Q:am->ar->Prop}(uj:A.depth < tg)(ho:s.heap.get? f=af o)(hd:o.data= .func fd)(Lf:s.heap.NoLimit)(Xk:s.heap.CodeRec fd.code fd.qualname)
  (Ce:fd.body= .stmts body) (Cd:mN s fd ⟨vals,[]⟩ binds) (TY:fd.closure=[]) (yJ:∀x∈binds,fd.scope.names.lookup x.1=af .local\/(fd.scope.names.lookup x.1=af .cell/\((cellsFrom (s.heap.objs.size+1) fd.scope.names []).lookup x.1).isSome=true))
  (NE:fd.scope.isCoroutine=false) (Lc:fd.scope.isGenerator=true) (hk:fd.scope.kind= .function)
  (h:∀bp,InCallC s (eB fd s.heap.objs.size f).locals (bindL (eB fd s.heap.objs.size f).kindOf binds λ aa=>none) (eB fd s.heap.objs.size f).cells (bindC (eB fd s.heap.objs.size f).kindOf binds λ aa=>none) bp->
   Q (.ref bp.heap.objs.size) {bp with gens:=bp.gens.push (.fresh (.func body (eB fd s.heap.objs.size f))),toks:=bp.toks+1+1,heap:=bp.heap.push {cls:= .type "generator",data:= .fields #[.int bp.gens.size 0, .str fd.name bp.toks, .str fd.qualname (bp.toks+1)]}}):
  aH (aE prog w) A (call (.ref f) vals) Q dq s:=by
 refine vI (codeAny_call_generator uj ho hd NE Lc Ce Xk (Cd _ _ _ _ ?_))
 rw[TY]
 refine DX hk yJ λ env he s' x=>⟨Lf.keeps x.toInCall.keep,?_⟩
 subst he
 exact h s' x
end
theorem sr:∀(l:ae (bM×dJ)) (n:Nat) (acc:ae (bM×au)),(∀x∈l,x.2≠ .cell)->cellsFrom n l acc=acc
 |[],_,_,_=>rfl
 |(x,k)::r,n,acc,h=>by
  exact(ah (λ b=>if b=true then cellsFrom (n+1) r ((x,n)::acc) else cellsFrom n r acc) (d9.mpr (h (x,k) (.head _)))).trans (sr r n acc λ y hy=>h y (.tail _ hy))
structure qN(P:cC)(f:au)(vs Vs:ae AV):Prop where
 run:∀(A:bn) (G:BM) (ρ:ae au) (mem:ae AO) (s:ar) (us:ae am) (Q:am->ar->Prop),my A P.d->P.Φ G->RM G ρ mem s.heap->bI G ρ vs us->
  (∀s' a gs L,(∀b o,s.heap.get? b=af o->s'.heap.get? b=af o)->s.heap.get? a=none->s'.heap.IsGen a s.gens.size->s'.gens[s.gens.size]?=af gs->GZ s s'->s.heap.get? L=none->(∃o,s'.heap.get? L=af o)->L≠a->
   qY P.prog P.w A.in1 Vs gs G (λ d=>d=L) s'.heap->Q (.ref a) s')->aH (aE P.prog P.w) A (call (.ref f) us) Q dq s
section
variable{P:cC}{ct:Ct}
noncomputable abbrev GKn(P:cC):=(g:au)->(vs:ae AV)->aq {Vs:ae AV // qN P g vs Vs}
theorem Fe(t:TG P ct)(b:SS P ct)(Jv:t.b_=true)(tn:t.lp=true)(cb:b.b_=true){F:Fd}(O:gH P ct F){G₀ G:BM}{gE ρ:ae au}{σ:St}{s s':ar}{Kv:Fl->St->Prop}{a L:au}{gs:d6}{Vs:ae AV}{N:Nat}(g:dC G₀ G)(x:Ext gE ρ)
  (R:RF F ct.aR G ρ σ s) (keep:∀b o,s.heap.get? b=af o->s'.heap.get? b=af o) (ha:s.heap.get? a=none) (ig:s'.heap.IsGen a s.gens.size) (Jx:s'.gens[s.gens.size]?=af gs) (zz:GZ s s') (hL:s.heap.get? L=none) (al:∃o,s'.heap.get? L=af o) (La:L≠a)
  (GL:qY P.prog P.w F.A.in1 Vs gs G (λ d=>d=L) s'.heap) (h:jo t.set b.run N (.fz 0 Vs) σ Kv):aH (aE P.prog P.w) F.A (iz (.ref a)) (λ i s'=>dO P.j (aE P.prog P.w) F.A (.forLoop t.bA i b.bA [] F.env) (λ r s'=>match r with | .ok f=>PF F ct.aR G₀ gE Kv f s' | .error _=>False) s') dq s':=
 wpAny_pyIter_gen ig (O_ Jv tn cb O (none_of λ y e=>de (A6 (cE _)) (R.gz.1.1 _ y e)) N s' ⟨Vs,0,G,ρ,σ,gs,G,λ d=>d=L,g,x,
  ⟨R.M4 (Ex:=λ aa=>False) (dC.refl _) (R.rm.keeps keep) (λ aa aa e=> .inl e) (λ d o aa e=>keep d o e) (λ aa w=>w.elim) (R.gz.trans zz),ig,R.loose ha (ig.imp λ o h=>h.elim λ aa h=>h.elim λ aa h=>h.1),La.symm,Jx,dC.refl _,λ d w=>w▸R.loose hL al⟩,GL,h⟩)
def YO(t:TG P ct)(f:SE P ct)(as:SL P ct)(cp:c7)(b:SS P ct)(p:c7)(gk:GKn P:=λ aa aa=>none):SX P ct where
 bA:= .For t.bA (.Call f.bA as.bA [] cp) b.bA [] p
 run:=λ σ K=>f.run σ λ fv aI=>Yp fv λ g=>as.run aI λ vs aU=>∃Vs,qN P g vs Vs/\∃N,jo t.set b.run N (.fz 0 Vs) aU K
 b_:=isNm f.bA&&((t.b_&&t.lp)&&((f.b_&&as.b_)&&b.b_))
 ok:=λ c F G ρ σ s Kv O R h=>have hf:=wH (aG c).1
  have c:=(aG c).2
  have ct:=aG (aG c).1
  have cf:=aG (aG c).2
  X.For (λ aa=>rfl) (zD f as hf (aG cf.1).1 (aG cf.1).2 O R h λ g dr vs jn gZ aU bp le x gJ qW w=>w.elim λ Vs w=>w.2.elim λ N w2=>X.any (w.1.run F.A jn gZ aU.mem bp vs _ O.room (gJ.i7 O) gJ.rm qW λ s' a gs L keep ha ig Jx zz hL al La GL=>X.any (Fe t b ct.1 ct.2 cf.2 O le x gJ keep ha ig Jx zz hL al La GL w2)))
 ab:=λ s=>bO (f.ab s) λ u s=>ob (tFn u) λ g=>bO (as.ab s) λ vs s=>ob (toAVs vs) λ us=>ob (gk g.1 us.1) λ Vs=>B3 t.st b.ab 12 (.fz (yD Vs.1)) s
 cN:=λ fo s outs h σ gs=>(f.cN fo).bind h gs λ u s l h a σ ga gs=>ob.u h λ g aa h=>(ll ga g.2).symm▸(as.cN fo).bind h gs λ ts s l h vs σ TX gs=>ob.u h λ us aa h=>ob.u h λ Vs aa h=>
  (us.2 _ TX).symm▸(sx (b.cN fo) 12 (.fz (yD Vs.1)) (.fz 0 Vs.1) ⟨0,Vs.1,rfl,k8 Vs.1⟩ s l h σ gs).eq λ K z=>⟨Vs.1,Vs.2,12,z⟩
end
theorem bI.close{G:BM}{ρ:ae au}{vs:ae AV}{us:ae am}(cl:∀f,ei f vs=vs)(h:bI G ρ vs us):bI G [] vs us:=
 bI.lD (ρ:=[]) (ρ':=ρ) (f:=λ i=>ρ.length+i) (λ i a e=>de (eZ (bq _ _)) e) vs ((cl _).symm▸h)
theorem yV{A:bn}{d u:Nat}{B:bn}(h:my A (d+1))(hd:B.depth<=A.depth+1)(hu:B.units<=A.units+4)(hh:B.handled=A.handled):my B d:=
 ⟨by have:=h.1; omega,by have:=h.2.1; omega,hh.trans h.2.2⟩
theorem GK.push{a:bD d6}{x:d6}(b:x.bare=true):GK a (a.push x):=
 ⟨λ i y e=>(Array.getElem?_push_lt (Array.getElem?_eq_some_iff.mp e).1).trans ((eX _).symm.trans e),λ hb y hy=>(Array.mem_push.mp hy).elim (hb y) λ e=>e▸b⟩
theorem Wt{s:ar}{fd:d5}{us:ae am}{xs:ae bM}(h:mN s fd ⟨us,[]⟩ (xs.zip (us++[]))):mN s fd ⟨us,[]⟩ (xs.zip us):=by rw[bQ] at h; exact h
section
variable{P:cC}{cg:Ct}{st:GQ P cg}{f:au}{fd:d5}{x0 x1 x2:bM}{n:Nat}
theorem qN.go(k:st.Ok)(D:JD P cg [x0,x1] [] st.body fd true)(tb:cg.aR=[x0,x1,x2,G0 cg 3])(VP:∀y∈cg.names,y.2≠ .cell)(ro:cg.ro=false)(hb:cg.tb=false)(cq:cg.cq=false)(hn:st.cnt=n+1){A:bn}{G:BM}{ρ:ae au}{mem:ae AO}{s:ar}{us:ae am}{Q:am->ar->Prop}
  (room:my A (P.d+1)) (i7:P.Φ G) (R:RM G ρ mem s.heap) (hv:bI G [] [st.a,st.b] us) {o:Obj} (ho:s.heap.get? f=af o) (hf:o.data= .func fd) (hK:P.K.In s.heap) (lim:s.heap.NoLimit)
  (h:∀s' a gs L,(∀b o,s.heap.get? b=af o->s'.heap.get? b=af o)->s.heap.get? a=none->s'.heap.IsGen a s.gens.size->s'.gens[s.gens.size]?=af gs->GZ s s'->s.heap.get? L=none->(∃o,s'.heap.get? L=af o)->L≠a->
   qY P.prog P.w A.in1 (Tj st.V 0 (n+1)) gs G (λ d=>d=L) s'.heap->Q (.ref a) s'):aH (aE P.prog P.w) A (call (.ref f) us) Q dq s:=by
 have Lb:([x0,x1].zip us).map (·.1)=[x0,x1]:=g_ (aT hv.length.symm)
 have nc:∀{x:bM},cg.names.lookup x≠af .cell:=λ e=>VP _ (mem_of_lookup e) rfl
 have loc:∀x∈[x0,x1],cg.names.lookup x=af .local:=λ x hx=>(D.kinds x hx).resolve_right nc
 refine KX (aS (bq _ _) (b9 room.1 (by decide))) ho hf lim (codeRec_of hK D.code) D.body (Wt (D.bind s us hK hv.length)) D.Tb (λ y hy=> .inl (D.scope▸loc y.1 (Lb▸g7 hy))) D.co D.gen D.kind λ bp ic=>?_
 have ec:(eB fd s.heap.objs.size f).cells=[]:=sr _ _ _ (D.scope.symm▸VP)
 have hk:∀x,(eB fd s.heap.objs.size f).kindOf x=cg.names.lookup x:=λ x=>ah (·.lookup x) D.scope
 have dead:s.heap.get? s.heap.objs.size=none:=dd (cE _)
 have lt:s.heap.objs.size < bp.heap.objs.size:=ic.toInCall.ns.elim λ aa h=>h.elim λ aa h=>h.elim λ aa h=>b8 h.1
 have sg:bp.gens=s.gens/\bp.os=s.os:=ic.done.elim λ h' q=>q.elim λ tk q=>q.1▸⟨rfl,rfl⟩
 have al:∀{x:Obj},∃o,(bp.heap.push x).get? s.heap.objs.size=af o:=ic.toInCall.ns.imp λ aa h=>h.elim λ aa h=>h.elim λ aa h=>aA _ h.1
 refine h _ _ (.fresh (.func st.body (eB fd s.heap.objs.size f))) s.heap.objs.size (λ d o q=>aA _ (ic.toInCall.keep d o q)) (dd (eU lt)) ?_ ((ah (λ g=>(bp.gens.push _)[g]?) (ah Array.size sg.1.symm)).trans Array.getElem?_push_size)
  ⟨sg.1▸GK.push rfl,sg.2⟩ dead al (dN lt) (Ip (g:={st with A:=A.in1,E:=eB fd s.heap.objs.size f}) {k with
   fr:=⟨D.kind,D.scope,D.glob,D.blt,ec,λ y=>nc,D.names,ro,hb,cq⟩,Se:=yV (u:=0) room (cE _) (cE _) rfl,room:=λ I p=>yV (u:=0) room (cE _) (cE _) rfl,NE:=D.co} hn i7
   ⟨_,zn (λ aa=>aA _) ic.toInCall.ns,λ i x v e e' n=>(J1 (aR:=cg.aR) (rest:=[x2,G0 cg 3]) tb hv.length hv e ((tb▸rfl:fill cg.aR [st.a,st.b]=[st.a,st.b, .undef, .undef]).symm▸e') n).imp λ u z=>
    have l:=(hk x).trans (loc x z.2.2); ⟨z.1,l,vZ _ l _ (Lb.symm▸(gP.mp (show([x0,x1]++[x2,G0 cg 3]).Nodup from(ah List.Nodup tb).mp D.names)).1) z.2.1⟩⟩ (R.yd dead))
 exact sg.1▸⟨_,_,_,aN _ rfl,rfl,rfl,rfl⟩
theorem qN.of(k:st.Ok)(H:JD P cg [x0,x1] [] st.body fd true)(ho:∃oc od Yq,P.K.lookup f=af (⟨oc,od, .func fd,Yq⟩:Obj))(tb:cg.aR=[x0,x1,x2,G0 cg 3])(VP:∀y∈cg.names,y.2≠ .cell)(ro:cg.ro=false)(hb:cg.tb=false)(cq:cg.cq=false)(hn:st.cnt=n+1)
  (cl:∀f,ei f [st.a,st.b]=[st.a,st.b]):qN P.up f [st.a,st.b] (Tj st.V 0 (n+1)):=
 ⟨λ A G ρ mem s us Q room i7 R hv h=>R.AA (P:=P) i7 λ aa aa aa aa aa b1 b2 b3=>ho.elim λ aa k1=>k1.elim λ aa k1=>k1.elim λ aa k1=>qN.go k H tb VP ro hb cq hn room i7 R (hv.close cl) (b1.keeps b3 _ _ k1) rfl (b1.keeps b3) (b2.nolimit.keeps b3) h⟩
end
namespace X
section
variable{prog:aK}{w:bw}{J:aC}{A:bn}{R:iP->ar->Prop}{s:ar}
theorem expr{e:aB}{env:Env}(h:cK J (aE prog w) (A.deeper env) (eval e env) (λ v s'=>R (.ok (.ret v)) s') s):dO J (aE prog w) A (.expr e env) R s:=by
 refine tree ?_
 show cK J _ (A.deeper env) (do point; PySem.ret (← (eval e env).onRaise (leaving env))) _ s
 exact cL (any (AU (cL (raises (mono h λ v s' h'=>X.ret h')))))
theorem Ib{a:au}{o:Obj}{fd:d5}{body:aB}{vals:ae am}{binds:ae (bM×am)}
  (uj:A.depth < tg) (ho:s.heap.get? a=af o) (K9:o.data= .func fd) (Lf:s.heap.NoLimit) (Xk:s.heap.CodeRec fd.code fd.qualname)
  (Ce:fd.body= .expr body) (Cd:mN s fd ⟨vals,[]⟩ binds) (abb:∀x∈binds,fd.scope.names.lookup x.1=af .local) (Xl:∀x∈fd.scope.names,x.2≠ .cell)
  (NE:fd.scope.isCoroutine=false) (Lc:fd.scope.isGenerator=false) (hk:fd.scope.kind= .function)
  (h:∀h',h'.Ns s.heap.objs.size (λ x=>binds.reverse.lookup x)->(∀b o,s.heap.get? b=af o->h'.get? b=af o)->
   cK J (aE prog w) (A.deeper (newEnv fd.scope s.heap.objs.size fd.globals fd.closure (fd.qualname++".<locals>.") (af a) fd.code none fd.builtins)) (eval body (newEnv fd.scope s.heap.objs.size fd.globals fd.closure (fd.qualname++".<locals>.") (af a) fd.code none fd.builtins))
    (λ v s'=>R (.ok (.ret v)) s') {s with heap:=h',toks:=s.toks+binds.length}):
  dO J (aE prog w) A (.call (.ref a) ⟨vals,[]⟩) R s:=by
 refine tree ?_
 show cK J _ A.in1 (DH (.ref a) ⟨vals,[]⟩) _ s
 unfold DH
 dsimp only
 refine cL (any (iQ ho ?_))
 obtain⟨c,oc,vs,tq,hc,Xt,hdc,hq⟩:=Xk
 rw[K9]
 dsimp only
 unfold callFunction
 dsimp only
 rw[hc] at h
 rw[NE,Lc,hc,Ce]
 dsimp only
 refine cL (m:=field (.ref c) 1) (any (wpAny_field Xt hdc hq (cL (X.ret ?_))))
 refine cL (any (Cd _ _ _ _ (cL (any ?_))))
 refine wpAny_newFunctionEnv Xl abb (λ h' RQ RS=>?_) hk
 have kk:∀b o,s.heap.get? b=af o->h'.get? b=af o:=λ b o e=>RS.extBut b o (dN (b8 e)) (aA _ e)
 have nl:h'.NoLimit:=Lf.keeps kk
 exact cL (any (wpAny_enterFrame nl uj (X.ret ⟨rfl,rfl,expr (h h' RQ kk)⟩)))
end
end X
noncomputable def q4(a b c d:Nat):c7:=⟨a,b,c,d⟩
def u9:zi:={posonlyargs:=[],args:=[{arg:="told",annotation:=none,pos:=q4 487 59 487 63}],vararg:=none,kwonlyargs:=[],kw_defaults:=[],kwarg:=none,defaults:=[]}
noncomputable def Gi:Ct:={names:=[("told", .local),("intervals", .free),("n", .free),("scan", .free),("data_size", .globalImplicit),("arith_writer", .globalImplicit)],aR:=["told","intervals","n","scan"]}
noncomputable def mB:qF:={kind:= .function,names:=Gi.names,isGenerator:=false,isCoroutine:=false,more:=[]}
noncomputable def ul(c1 c2 c3:au):ae (bM×au):=[("scan",c3),("n",c2),("intervals",c1)]
def oD(G:BM)(c:au)(a:AV):Prop:=∃o v,G c=af o/\o.data= .cell (af v)/\VR G [] a v
inductive t5(body:aB)(lf:au)(iv nn sc:AV)(G:BM):Prop
 |mk (c1 c2 c3 c':au) (Ku pm:am) (oc:Obj) (vs:bD am) (t:j_) (h1:G lf=af (kla_obj "<lambda>" m5 u9 body mB (ul c1 c2 c3) pm c' Ku)) (h2:G c'=af oc) (hd:oc.data= .fields vs) (hv:vs[1]?=af (.str m5 t))
  (k1:oD G c1 iv) (k2:oD G c2 nn) (k3:oD G c3 sc) (NH:c1≠c2) (NI:c1≠c3) (NJ:c2≠c3)
theorem oD.up{G G':BM}(g:dC G G'){c:au}{a:AV}:oD G c a->oD G' c a:= .imp λ aa=> .imp λ aa=> .imp (g _ _) (.imp_right (VR.up g (Ext.refl _) _))
theorem t5.up{body:aB}{lf:au}{iv nn sc:AV}(G G':BM)(g:dC G G')(h:t5 body lf iv nn sc G):t5 body lf iv nn sc G':=by
 rcases h with⟨c1,c2,c3,c',Ku,pm,oc,vs,t,h1,h2,hd,hv,k1,k2,k3,NH,NI,NJ⟩
 exact⟨c1,c2,c3,c',Ku,pm,oc,vs,t,g _ _ h1,g _ _ h2,hd,hv,k1.up g,k2.up g,k3.up g,NH,NI,NJ⟩
noncomputable def JA{α β:Type}(Q:α->β->Prop):ae α->ae β->Prop
 |x::xs,v::vs=>Q x v/\JA Q xs vs
 |_,_=>True
theorem JA.at{α β:Type}{Q:α->β->Prop}:∀{xs:ae α} {vs:ae β} {i:Nat} {x:α} {v:β},JA Q xs vs->xs[i]?=af x->vs[i]?=af v->Q x v
 |[],_,_,_,_=>λ aa e aa=>cu e
 |_::_,[],_,_,_=>λ aa aa e=>cu e
 |_::_,_::_,0,_,_=>λ h e e'=>ak e▸ak e'▸h.1
 |_::_,_::_,i+1,_,_=>λ h e e'=>JA.at (i:=i) h.2 e e'
section
variable{P:cC}{b:SE P Gi}{lf:au}{iv nn sc a:AV}{mem:ae AO}{K:AV->ae AO->Prop}{A:bn}{G:BM}{ρ:ae au}{s:ar}{vs:ae am}{h':Heap}{c c1 c2 c3:au}{cv u:am}{d:Nat}
structure yb(G:BM)(ρ:ae au)(s:ar)(h':Heap)(c:au)(a:AV):Prop where
 L:c≠s.heap.objs.size
 r:c∉ρ
 at_:∃v,VR G ρ a v/\h'.IsCell c (af v)
theorem oD.f(h:oD G c a)(R:RM G ρ mem s.heap)(kk:∀b o,s.heap.get? b=af o->h'.get? b=af o):yb G ρ s h' c a:=
 h.elim λ o h=>h.elim λ v h=>⟨λ e=>de (dd (aT e.symm)) (R.kg _ _ h.1),λ hm=>de (R.fr c hm) h.1,v,VR.up (dC.refl _) ⟨ρ,rfl⟩ _ h.2.2,o,kk _ _ (R.kg _ _ h.1),h.2.1⟩
abbrev oP(s:ar)(lf c1 c2 c3:au)(cv:am):Env:=newEnv mB s.heap.objs.size dG (ul c1 c2 c3) (m5++".<locals>.") (af lf) cv none mq
theorem Kt:∀y∈Gi.names,y.2≠ .cell:=by decide
theorem Eo{x:bM}{Q:Prop}(h:Gi.names.lookup x=af .cell):Q:=bt rfl (Kt _ (mem_of_lookup h))
theorem Uh(R:RM G ρ mem s.heap)(RQ:h'.Ns s.heap.objs.size λ x=>([(("told":bM),u)]:ae (bM×am)).reverse.lookup x)(kk:∀b o,s.heap.get? b=af o->h'.get? b=af o)(vu:VR G ρ a u)(k1:yb G ρ s h' c1 iv)(k2:yb G ρ s h' c2 nn)(k3:yb G ρ s h' c3 sc)
  (NH:c1≠c2) (NI:c1≠c3) (NJ:c2≠c3) {t:Nat}:RF ⟨A,oP s lf c1 c2 c3 cv,s.heap,ρ,G,s,false⟩ Gi.aR G ρ ⟨[a,iv,nn,sc],mem⟩ {s with heap:=h',toks:=t}:=
 have cl:∀{x:bM} {c:au} {a:AV},yb G ρ s h' c a->(ul c1 c2 c3).lookup x=af c->(oP s lf c1 c2 c3 cv).kindOf x=af .free->∃u,VR G ρ a u/\At (oP s lf c1 c2 c3 cv) h' x u:=λ k e z=>k.at_.imp λ u q=>⟨q.1, .inr ⟨.inr z,_,e,q.2⟩⟩
 have cf:∀{x:bM} {c:au} {a:AV},yb G ρ s h' c a->c≠s.heap.objs.size/\c∉ρ/\(∃v,h'.IsCell c v)/\((oP s lf c1 c2 c3 cv).kindOf x=af .cell->G c=none):=λ k=>⟨k.L,k.r,k.at_.elim λ aa q=>⟨_,q.2⟩,Eo⟩
 RF.first R kk (dd (cE _)) ⟨_,RQ⟩ (λ x c e=>aJ (p:=λ p:bM×au=>p.2≠s.heap.objs.size/\p.2∉ρ/\(∃v,h'.IsCell p.2 v)/\((oP s lf c1 c2 c3 cv).kindOf p.1=af .cell->G p.2=none)).mpr ⟨cf k3,aJ.mpr ⟨cf k2,aJ.mpr ⟨cf k1,λ aa h=>bt h bN⟩⟩⟩ (x,c) (mem_of_lookup (l:=ul c1 c2 c3) e))
  (λ x y c e e'=>name_of_addr (cs:=ul c1 c2 c3) (Je.mpr ⟨aJ.mpr ⟨NJ.symm,aJ.mpr ⟨NI.symm,λ aa h=>bt h bN⟩⟩,Je.mpr ⟨aJ.mpr ⟨NH.symm,λ aa h=>bt h bN⟩,o4 _ _⟩⟩) (mem_of_lookup e) (mem_of_lookup e'))
  (λ i x v e e' aa=>JA.at (Q:=λ x v=>∃u,VR G ρ v u/\At (oP s lf c1 c2 c3 cv) h' x u) (xs:=["told","intervals","n","scan"]) (vs:=[a,iv,nn,sc]) ⟨⟨u,vu, .inl ⟨rfl,_,RQ,rfl⟩⟩,cl k1 rfl rfl,cl k2 rfl rfl,cl k3 rfl rfl,trivial⟩ e e') (GZ.of ⟨rfl,rfl,rfl⟩)
theorem Ue:Q_ ["told"]:=λ fd vs=>by kernel_rfl
theorem WC.lam(hΦ:∀G,P.Φ G->t5 b.bA lf iv nn sc G)(b_:b.b_=true)(h:b.run ⟨[a,iv,nn,sc],mem⟩ λ v σ=>K v σ.mem):WC P.up lf [a] mem K:=by
 refine⟨λ A G ρ s vs room i7 R hv=>R.AA (P:=P) i7 λ aa aa aa aa aa aa b2 b3=>?_⟩
 rcases hΦ G i7 with⟨c1,c2,c3,c',Ku,pm,oc,fs,t,h1,h2,h2d,h2v,k1,k2,k3,NH,NI,NJ⟩
 refine hv.u1 (Q:=λ vs=>dO P.j (aE P.prog P.w) A (.call (.ref lf) ⟨vs,[]⟩) (G7 (WQ G ρ s K)) s) λ u vu=>?_
 refine X.Ib (fd:=kla_fn "<lambda>" m5 u9 b.bA mB (ul c1 c2 c3) pm (.ref c') Ku) (aS (bq _ _) (b9 room.1 (by decide))) (R.kg _ _ h1) rfl (b2.nolimit.keeps b3) ⟨c',oc,fs,t,rfl,R.kg _ _ h2,h2d,h2v⟩ rfl
  (uo Ue rfl rfl s [u] rfl) (λ x hx=>(aZ.mp hx:x=(("told":bM),u))▸rfl) Kt rfl rfl rfl λ h' RQ kk=>?_
 have O:gH P Gi ⟨A.deeper (oP s lf c1 c2 c3 (.ref c')),oP s lf c1 c2 c3 (.ref c'),s.heap,ρ,G,s,false⟩:=⟨rfl,rfl,rfl,rfl,room.deeper,i7,qw rfl,rfl,λ x=>Eo,λ hx=>ay hx,λ hx=>ay hx⟩
 exact X.mono (b.ok b_ _ G ρ _ _ _ O (Uh R RQ kk vu (k1.f R kk) (k2.f R kk) (k3.f R kk) NH NI NJ) h) λ v s' z=>z.u λ G' ρ' av bZ g x R' vv hk=>RF.leave (env:=oP s lf c1 c2 c3 (.ref c')) (dd (cE _)) (λ x c aa q aa=>Eo q) g x R' vv hk
end
section
noncomputable def s9:ae AV->Prop
 |[]=>True
 |v::r=>(∃i,v= .int i)/\s9 r
theorem s9.vrs{G G':BM}{ρ ρ':ae au}:∀{us:ae AV} {vs:ae am},s9 us->bI G ρ us vs->bI G' ρ' us vs
 |[],_=>λ aa=>id
 |v::r,vs=>λ hi h=>hi.1.elim λ i e=>h.uc (Q:=λ vs=>bI G' ρ' (v::r) vs) λ u t h1 h2=> .cons (e▸(e▸h1:VR G ρ (.int i) u)) (s9.vrs hi.2 h2)
noncomputable def PW(o:Obj):Prop:=∀v,o.data≠ .cell v
abbrev FQ(G G':BM):Prop:=∀a o,G a=af o->PW o->G' a=af o
theorem pw.drop{G G':BM}(k:FQ G G'):∀{ks:ae (ae Int)} {es:ae bi} {us:ae am},pw G ks es us->pw G' ks es us
 |[],_,_=>id
 |_::_,_,_=> .imp λ aa=> .imp λ aa=> .imp λ aa=> .imp λ aa=> .imp λ aa=> .imp λ aa=> .imp_right<| .imp_right<| .imp (λ h=>⟨k _ _ h.1 (h.2.2.elim λ n e v q=>nomatch e.symm.trans q),h.2⟩)<| .imp_right<|pw.drop k
theorem VR.WV{G G':BM}{ρ ρ':ae au}(k:FQ G G'){ks:ae (ae Int)}{us:ae AV}(hi:s9 us){v:am}:VR G ρ (.bG ks us) v->VR G' ρ' (.bG ks us) v:=
 .imp λ aa=> .imp λ aa=> .imp λ aa=> .imp λ aa=> .imp λ aa=> .imp_right λ h=>⟨k _ _ h.1 (λ v q=>nomatch h.2.2.1.symm.trans q),h.2.1,h.2.2.1,h.2.2.2.1.drop k,hi.vrs h.2.2.2.2.1,h.2.2.2.2.2⟩
noncomputable def cC.lam(P:cC)(body:aB)(lf:au)(iv nn sc:AV):cC:={P with
 Φ:=λ G=>P.Φ G/\t5 body lf iv nn sc G
 mono:=λ G G' g h=>⟨P.mono G G' g h.1,t5.up G G' g h.2⟩
 base:=λ G h=>P.base G h.1
 glob:=λ G x v ρ h=>P.glob G x v ρ h.1
 I7:=λ G h=>P.I7 G h.1}
open Classical in
noncomputable def BM.plus(G:BM)(h:Heap)(l:ae au):BM:=λ a=>if a∈l then h.get? a else G a
open Classical in
noncomputable def BM.less(G:BM)(l:ae au):BM:=λ a=>if a∈l then none else G a
section
variable{G:BM}{h:Heap}{l:ae au}{a:au}{o:Obj}
theorem BM.l_(m:a∈l):G.plus h l a=h.get? a:=dj m
theorem BM.C3(m:a∉l):G.plus h l a=G a:=bC m
theorem BM.Hc(k:KG G h):dC G (G.plus h l):=λ a o e=>(d0 (a∈l)).elim (λ m=>(BM.l_ m).trans (k a o e)) λ m=>(BM.C3 m).trans e
theorem BM.Hd(e:G.plus h l a=af o):G a=af o\/(a∈l/\h.get? a=af o):=(d0 (a∈l)).elim (λ m=> .inr ⟨m,(BM.l_ m).symm.trans e⟩) λ m=> .inl ((BM.C3 m).symm.trans e)
theorem BM.GI(m:a∉l)(e:G a=af o):G.less l a=af o:=(bC m).trans e
theorem BM.GJ(e:G.less l a=af o):G a=af o/\a∉l:=(d0 (a∈l)).elim (λ m=>de (dj m) e) λ m=>⟨(bC m).symm.trans e,m⟩
end
structure mw(G:BM)(ρ:ae au)(s:ar)(c:au)(a:AV):Prop where
 at_:∃u,VR G ρ a u/\s.heap.IsCell c (af u)
 r:c∉ρ
 g:G c=none
structure FV(body:aB)(G:BM)(s:ar)(c1 c2 c3 lf c':au)(s':ar):Prop where
 dead:s.heap.get? lf=none
 lo:∃pm Ku,s'.heap.get? lf=af (kla_obj "<lambda>" m5 u9 body mB (ul c1 c2 c3) pm c' Ku)
 keep:∀b o,b≠dL->s.heap.get? b=af o->s'.heap.get? b=af o
 tab:∃ps,s'.heap.get? dL=af (td ps)/\TriplesOk ps.toList/\codeAmong z5 ps.toList=af (.ref c')
 co:∃oc fs t,s'.heap.get? c'=af oc/\(oc.data= .fields fs/\fs[1]?=af (.str m5 t))/\(G c'=af oc\/s.heap.get? c'=none)
 nct:c'≠dL
 z:s'.gens=s.gens/\s'.os=s.os
section
variable{P:cC}{ct:Ct}
theorem VR.close{G:BM}{ρ:ae au}{a:AV}{u:am}(cl:∀f,el f a=a)(h:VR G ρ a u):VR G [] a u:=
 VR.lD (ρ:=[]) (ρ':=ρ) (f:=λ i=>ρ.length+i) (λ i a e=>de (eZ (bq _ _)) e) a ((cl _).symm▸h)
theorem zE{F:Fd}{G:BM}{ρ:ae au}{σ:St}{s:ar}(O:gH P ct F)(R:RF F ct.aR G ρ σ s){i:Nat}{x:bM}{a:AV}(ht:ct.aR[i]?=af x)(hk:ct.names.lookup x=af .cell)(hl:fy σ.loc i=a)(hn:a≠ .undef):∃c,F.env.cells.lookup x=af c/\mw G ρ s c a:=
 have kk:F.env.kindOf x=af .cell:=(ah (·.lookup x) O.names).trans hk
 (R.loc i x a ht (qu _ _ _ hl hn) hn).elim λ u h=>h.2.elim (λ k=>nomatch kk.symm.trans k.1) λ k=>k.2.elim λ c k=>have q:=R.cell x c k.1; ⟨c,k.1,⟨u,h.1,k.2⟩,q.2.1,q.2.2.2 kk⟩
section
variable{body:aB}{lf c c1 c2 c3:au}{F:Fd}{G G':BM}{σ:St}{s s' s'':ar}{a iv nn sc:AV}
theorem mw.kept(k:mw G [dL] s c a)(keep:∀b o,b≠dL->s.heap.get? b=af o->s'.heap.get? b=af o):∃o u,VR G [dL] a u/\s'.heap.get? c=af o/\o.data= .cell (af u):=k.at_.elim λ u q=>q.2.elim λ o w=>⟨o,u,q.1,keep c o (λ e=>k.r (e▸ .head _)) w.1,w.2⟩
theorem mw.to(k:mw G [dL] s c a)(keep:∀b o,b≠dL->s.heap.get? b=af o->s'.heap.get? b=af o)(cl:∀f,el f a=a)(le:dC G G')(e:G' c=s'.heap.get? c):oD G' c a:=
 (k.kept keep).elim λ o h=>h.elim λ u h=>⟨o,u,e.trans h.2.1,h.2.2,VR.up le (Ext.refl _) _ (h.1.close cl)⟩
noncomputable abbrev IB(c1 c2 c3 lf c':au):ae au:=[lf,c',c1,c2,c3]
variable{c':au}{ac6:aB}
theorem Uf(m:FV body G s c1 c2 c3 lf c' s')(kg:KG G s'.heap)(i7:P.Φ G)(k1:mw G [dL] s c1 iv)(k2:mw G [dL] s c2 nn)(k3:mw G [dL] s c3 sc)(cl:(∀f,el f iv=iv)/\(∀f,el f nn=nn)/\∀f,el f sc=sc)(NH:c1≠c2)(NI:c1≠c3)(NJ:c2≠c3):
  (P.lam body lf iv nn sc).Φ (G.plus s'.heap (IB c1 c2 c3 lf c'))/\RM (G.plus s'.heap (IB c1 c2 c3 lf c')) [] [] s'.heap:=
 have le:=BM.Hc (l:=IB c1 c2 c3 lf c') kg
 ⟨⟨P.mono _ _ le i7,m.lo.elim λ pm q=>q.elim λ Ku q=>m.co.elim λ oc w=>w.elim λ fs w=>w.elim λ t w=>
  ⟨c1,c2,c3,c',Ku,pm,oc,fs,t,(BM.l_ (.head _)).trans q,(BM.l_ (.tail _ (.head _))).trans w.1,w.2.1.1,w.2.1.2,k1.to m.keep cl.1 le (BM.l_ (.tail _ (.tail _ (.head _)))),k2.to m.keep cl.2.1 le (BM.l_ (.tail _ (.tail _ (.tail _ (.head _))))),
   k3.to m.keep cl.2.2 le (BM.l_ (.tail _ (.tail _ (.tail _ (.tail _ (.head _)))))),NH,NI,NJ⟩⟩,
  λ a o e=>(BM.Hd e).elim (kg a o) f4,rfl,λ i a ao h=>cu h,f8,λ a h=>(nomatch h)⟩
theorem Lz(m:FV body G s c1 c2 c3 lf c' s')(R:RF F ct.aR G [dL] ⟨σ.loc,[.tab]⟩ s)(k1:mw G [dL] s c1 iv)(k2:mw G [dL] s c2 nn)(k3:mw G [dL] s c3 sc)(le:dC G G')(g:dC (G.plus s'.heap (IB c1 c2 c3 lf c')) G')(M:RM G' [] [] s''.heap)
  (kp:∀a o,s'.heap.get? a=af o->s''.heap.get? a=af o) (gf:∀a o,G' a=af o->G.plus s'.heap (IB c1 c2 c3 lf c') a=af o\/s'.heap.get? a=none) (gz:GZ s' s''):
  dC G (G'.less [c1,c2,c3])/\RF F ct.aR (G'.less [c1,c2,c3]) [dL] ⟨σ.loc,[.tab]⟩ s''/\FQ G' (G'.less [c1,c2,c3]):=by
 have acB:G dL=none:=R.rm.fr dL (.head _)
 have out:∀{a},a∈[c1,c2,c3]->G a=none:=λ h=>aJ (p:=λ a=>G a=none).mpr ⟨k1.g,aJ.mpr ⟨k2.g,aJ.mpr ⟨k3.g,λ aa h=>bt h bN⟩⟩⟩ _ h
 have cell:∀a∈[c1,c2,c3],∃o u,s'.heap.get? a=af o/\o.data= .cell (af u):=
  have c:∀{c a},mw G [dL] s c a->∃o u,s'.heap.get? c=af o/\o.data= .cell (af u):=λ k=>(k.kept m.keep).imp λ aa=> .imp λ aa=>f4
  aJ.mpr ⟨c k1,aJ.mpr ⟨c k2,aJ.mpr ⟨c k3,λ aa h=>bt h bN⟩⟩⟩
 have drop:FQ G' (G'.less [c1,c2,c3]):=λ a o e n=>BM.GI (λ h=>(cell a h).elim λ o' w=>w.elim λ u w=>n (af u) (ak ((M.kg a o e).symm.trans (kp a o' w.1))▸w.2)) e
 have of:∀a o,G'.less [c1,c2,c3] a=af o->G a=af o\/s.heap.get? a=none:=λ a o e=>have e:=BM.GJ e; (gf a o e.1).elim (λ q=>(BM.Hd q).elim .inl λ q=>(bW.mp q.1).elim (λ e=> .inr (e▸m.dead)) λ h=>(bW.mp h).elim
  (λ e=>m.co.elim λ oc w=>w.elim λ fs w=>w.elim λ t w=>e.symm▸w.2.2.imp_left λ z=>z.trans (w.1.symm.trans (e▸q.2))) λ h=>bt h e.2)
  λ q=> .inr (none_of λ o' w=>(d0 (a=dL)).elim (λ z=>m.tab.elim λ aa y=>de (z▸q) y.1) λ z=>de q (m.keep a o' z w))
 have acz:G'.less [c1,c2,c3] dL=none:=none_of λ o e=>(of _ o e).elim (de acB) λ q=>(R.rm.some_of (.head _)).elim λ aa=>de q
 have XV:dC G (G'.less [c1,c2,c3]):=λ a o e=>BM.GI (λ h=>de (out h) e) (le a o e)
 refine⟨XV,R.Hs (s':=s'') (mem':=[.tab]) (Ext.refl _) XV ⟨λ a o e=>M.kg a o (BM.GJ e).1,rfl,λ i a ao h h'=>?_,R.rm.nd,λ a ha=>(aZ.mp ha)▸acz⟩ (λ a h=> .inl h) of (λ a o n e=>kp a o (m.keep a o (λ q=>n (q▸ .head _)) e)) ((GZ.of ⟨m.z.1,m.z.1,m.z.2⟩).trans gz),drop⟩
 rcases i with _|i
 ·cases h
  cases h'
  exact m.tab.elim λ ps y=>m.co.elim λ oc w=>w.elim λ fs w=>w.elim λ t w=>⟨_,kp _ _ y.1,ps,rfl,y.2.1, .inr ⟨c',oc,fs,t,y.2.2,drop c' oc (g _ _ ((BM.l_ (.tail _ (.head _))).trans w.1)) (λ v q=>nomatch w.2.1.1.symm.trans q),w.2.1⟩⟩
 ·exact cu h
theorem LA(O:gH P ct F)(R:RF F ct.aR G [dL] ⟨σ.loc,[.tab]⟩ s)(k1:mw G [dL] s c1 iv)(k2:mw G [dL] s c2 nn)(k3:mw G [dL] s c3 sc)(NH:c1≠c2)(NI:c1≠c3)(NJ:c2≠c3)(cl:(∀f,el f iv=iv)/\(∀f,el f nn=nn)/\∀f,el f sc=sc)
  (m:FV body G s c1 c2 c3 lf c' s') {ks:ae (ae Int)} {us:ae AV} (hi:s9 us) {vs3:ae am} (va:bI G [dL] [sc,nn, .int 5] vs3) (H:WC (P.lam body lf iv nn sc) 68 [sc,nn, .int 5, .fn lf] [] λ v m=>v= .bG ks us/\m=[]) {Q:am->ar->Prop}
  (k:∀v s'' G2,dC G G2->RF F ct.aR G2 [dL] ⟨σ.loc,[.tab]⟩ s''->VR G2 [dL] (.bG ks us) v->Q v s''):WP P F.A (call (.ref 68) (vs3++[.ref lf]) []) Q s':=by
 have kg:KG G s'.heap:=λ a o e=>m.keep a o (λ q=>de (R.rm.fr dL (.head _)) (q▸e)) (R.rm.kg a o e)
 have le:=BM.Hc (l:=IB c1 c2 c3 lf c') kg
 have I:=Uf (P:=P) m kg (R.i7 O) k1 k2 k3 cl NH NI NJ
 refine X.calls (X.eh (H.run F.A _ [] s' _ O.room I.1 I.2 ((bI.up le (Ext.refl _) _ (bI.close (vs:=[sc,nn, .int 5]) (λ f=>show[el f sc,el f nn, .int 5]=_ from congr (ah A7 (cl.2.2 f)) (ah (·::[AV.int 5]) (cl.2.1 f))) va)).append (bI.cons (m.lo.elim λ aa q=>q.elim λ aa q=>vB rfl ⟨_,_,(BM.l_ (.head _)).trans q,rfl⟩) bI.nil))) λ r s'' y=>?_)
 refine y.u (Q:=λ r s''=>match r with | .ok (.ret v)=>Q v s''|_=>False) λ v y=>?_
 rcases y with⟨G',ρ',av,mem',⟨g,x,R',vv,e1,e2⟩,kp,nw,gf,gz⟩
 cases cX.mp (R'.len.trans (ah fU e2))
 have B:=Lz (F:=F) (ct:=ct) (σ:=σ) m R k1 k2 k3 (le.trans g) g (e2▸R') (λ a o e=>kp a o bN e) gf gz
 exact k v s'' _ B.1 B.2.1 (VR.WV B.2.2 hi (e1▸vv))
theorem acf{ρ:ae au}{a:au}(l:ρ.length=1)(h:ρ[0]?=af a):ρ=[a]:=by
 obtain⟨x,rfl⟩:=DA.mp l
 exact ah (λ x=>[x]) (ak h)
end
end
end
theorem QJ{v:am}(h:Y2 v=true):∃s t,v= .str s t:=by
 rcases v
 case str=>exact⟨_,_,rfl⟩
 all_goals exact ay h
theorem Gy{v:am}(h:T3 v=true):∃s t,v= .int s t:=by
 rcases v
 case int=>exact⟨_,_,rfl⟩
 all_goals exact ay h
theorem OA{v:am}(h:WA v=true):∃b,v= .bool b:=by
 rcases v
 case bool=>exact⟨_,rfl⟩
 all_goals exact ay h
theorem Ut{a b:Nat}(h:(!a_ a b)=true):a≠b:=pI (nb h)
theorem yx{K:f_}{h:Heap}(hK:K.In h)(c:lj K=true):CodeHd h v_ dL:=
 h_ (aG c).2 λ o ho c=>O4 (aG c).2 λ vs hv d=>h_ d λ v hp d=>(ma (aG d).1).elim λ p e=>
  have hp:vs[11]?=af (.ref dL):=hp.trans (ah af (e.1.trans (ah dp (aL e.2))))
  have d1:=aG (aG d).2
  have d2:=aG d1.2
  have d3:=aG d2.2
  (QJ d1.1).elim λ aa a=>a.elim λ aa a=>(Gy d2.1).elim λ aa b=>b.elim λ aa b=>(OA d3.1).elim λ aa e=>(Gy d3.2).elim λ aa f=>f.elim λ aa f=>
   ⟨o,vs,_,_,_,_,_,_,_,hK _ _ ho,Fw (aG c).1,hv,hp,Array.getD_eq_getD_getElem?.trans (ah (Option.getD · c8) hp),a,b,e,f,by decide⟩
theorem Wz{K:f_}{h:Heap}{mg:bM->aq am}(hK:K.In h)(hg:h.Ns dG mg)(c:lj K=true):h.BuiltinsAt mg dL:=
 h_ (aG c).1 λ r hr c=>h_ c λ v hv c=>(ma c).elim λ bm e=>h_ e.2 λ o ho c=>
  have c1:=aG c
  have c2:=aG c1.2
  have c3:=aG c2.2
  have c4:=aG c3.2
  have c5:=aG c4.2
  h_ c2.1 λ d hd q=>⟨bm,o,mg_of hK hg (hr.trans (ah af (hv.trans (ah af e.1)))),Ut c4.1,Ut c5.1,Ut c5.2,hK _ _ ho,Fw c1.1,hd.trans (ah af (aL q)),UD c3.1⟩
section
variable{P:cC}{ct:Ct}
def Pr(b:SE P Gi):aB:= .Lambda u9 b.bA mB z5
def eCh:SE P ct:=Vz "chosen_conditioning" (.fn 68) ⟨487,11,487,30⟩
def VJ:SE P ct:=eW 2 ⟨487,31,487,35⟩
def eN:SE P ct:=eW 5 ⟨487,37,487,38⟩
def eMt:SE P ct:=Vz "MOST_TRIED" (.int 5) ⟨487,40,487,50⟩
theorem OQ{σ:St}{K:AV->St->Prop}(h:ldK (fy σ.loc 2) σ K):(VJ (P:=P) (ct:=ct)).run σ K:=h
theorem Tl{σ:St}{K:AV->St->Prop}(h:ldK (fy σ.loc 5) σ K):(eN (P:=P) (ct:=ct)).run σ K:=h
noncomputable def tC(ct:Ct)(i:Nat)(x:bM):aC:=(ct.aR[i]?==af x)&&(ct.names.lookup x==af .cell)
theorem pZ{env:Env}{n:bM}{c:au}{r:ae (bM×dJ)}{acc:ae (bM×au)}(h:env.cells.lookup n=af c):kt env ((n, .free)::r) acc=kt env r ((n,c)::acc):=by
 show kt env r (match env.cells.lookup n with|some c=>(n,c)::acc|none=>acc)=_
 rw[h]
theorem yP{env:Env}{c1 c2 c3:au}(l1:env.cells.lookup ("intervals":bM)=af c1)(l2:env.cells.lookup ("n":bM)=af c2)(l3:env.cells.lookup ("scan":bM)=af c3):DQ mB env=pure (ul c1 c2 c3):=
 (v7 (aJ.mpr ⟨λ h=>(nomatch h),aJ.mpr ⟨λ aa=>⟨_,l1⟩,aJ.mpr ⟨λ aa=>⟨_,l2⟩,aJ.mpr ⟨λ aa=>⟨_,l3⟩,aJ.mpr ⟨λ h=>(nomatch h),aJ.mpr ⟨λ h=>(nomatch h),λ aa h=>bt h bN⟩⟩⟩⟩⟩⟩)).trans
  (ah pure ((show kt env mB.names []=kt env (("intervals", .free)::("n", .free)::("scan", .free)::[("data_size", .globalImplicit),("arith_writer", .globalImplicit)]) [] from rfl).trans ((pZ l1).trans ((pZ l2).trans (pZ l3)))))
section
variable{b:SE P Gi}{F:Fd}{G:BM}{l:ae AV}{s:ar}{c1 c2 c3:au}
theorem LB(O:gH P ct F)(R:RF F ct.aR G [dL] ⟨l,[.tab]⟩ s)(hq:ct.cq=true)(l1:F.env.cells.lookup ("intervals":bM)=af c1)(l2:F.env.cells.lookup ("n":bM)=af c2)(l3:F.env.cells.lookup ("scan":bM)=af c3)
  {Q:am->ar->Prop} (h:∀lf c' s',FV b.bA G s c1 c2 c3 lf c' s'->Q (.ref lf) s'):aH (aE P.prog P.w) F.A (eval (Pr b) F.env) Q dq s:=R.AA O λ B p lo mg mb aa b2 b3=>by
 have q:=O.cq hq
 have hK:P.K.In s.heap:=R.K O
 have hg:=b2.g.keeps b3
 have C:=yx hK q.2.2
 have hb:=Wz hK hg q.2.2
 obtain⟨o,ho,ps,rfl,Xv,hc⟩:=R.rm.obj 0 dL .tab rfl rfl
 unfold Pr
 refine kla_eval rfl ?_
 rw[show F.env.qual++"<lambda>"=m5 from ah (λ q:bM=>q++bR "<lambda>") q.2.1]
 rcases hc with hc|⟨c',oc,fs,t,hc,g1,g2⟩
 ·refine kla_makeFunction (yP l1 l2 l3) O.glob hg q.1 C ho Xv hc (by decide) hb λ c' Ku h' tk hx hge Iu abl Lh=>?_
  obtain⟨c₂,oc,fs,t,e2,Xt,hd⟩:=abl
  cases e2
  have hd0:s.heap.get? c'=none:=dd hge
  exact h h'.objs.size c' _ ⟨dd (aF hge (eU Iu)),⟨_,_,aN _ rfl⟩,λ b o n e=>aA _ (hx b o n e),⟨_,aA _ Lh,me.symm▸TriplesOk_snoc _ _ _ _ Xv,me.symm▸codeAmong_snoc _ Xv hc⟩,
   ⟨oc,fs,t,aA _ Xt,hd, .inr hd0⟩,λ q=>de hd0 (q▸ho),rfl,rfl⟩
 ·exact kla_makeFunctionHit (yP l1 l2 l3) O.glob hg q.1 C ho Xv hc hb λ Ku h' tk hk hsz=>h h'.objs.size c' _ ⟨dd hsz,⟨_,_,aN _ rfl⟩,λ b o aa e=>aA _ (hk b o e),⟨ps,aA _ (hk _ _ ho),Xv,hc⟩,
   ⟨oc,fs,t,aA _ (hk _ _ (R.rm.kg _ _ g1)),g2, .inl g1⟩,λ q=>de (R.rm.fr dL (.head _)) (q▸g1),rfl,rfl⟩
end
theorem SE.J2(e:SE P ct)(c:e.b_=true){F:Fd}{G:BM}{ρ:ae au}{σ:St}{s:ar}(O:gH P ct F)(R:RF F ct.aR G ρ σ s){V:AV}(run:e.run σ λ a bZ=>a=V/\bZ=σ){Q:am->ar->Prop}(k:∀G' ρ' v s',dC G G'->Ext ρ ρ'->RF F ct.aR G' ρ' σ s'->VR G' ρ' V v->Q v s'):
  cK P.j (aE P.prog P.w) F.A (eval e.bA F.env) Q s:=X.mono (e.ok c F G ρ σ s _ O R run) λ v s' z=>z.u λ G' ρ' a bZ g x R' va h=>k G' ρ' v s' g x (h.2▸R') (h.1▸va)
structure V6(P:cC)(b:SE P Gi)(σ:St)(ks:ae (ae Int))(us:ae AV)(sc nn iv:AV):Prop where
 l:fy σ.loc 2=sc/\fy σ.loc 5=nn/\fy σ.loc 4=iv
 u:sc≠ .undef/\nn≠ .undef/\iv≠ .undef
 cl:(∀f,el f iv=iv)/\(∀f,el f nn=nn)/\∀f,el f sc=sc
 hi:s9 us
 m:σ.mem=[.tab]
 H:∀lf,WC (P.lam b.bA lf iv nn sc) 68 [sc,nn, .int 5, .fn lf] [] λ v m=>v= .bG ks us/\m=[]
theorem Pt{b:SE P Gi}{σ:St}{ks:ae (ae Int)}{us:ae AV}{sc nn iv:AV}(L:V6 P b σ ks us sc nn iv)(c:(((eCh (P:=P) (ct:=ct)).b_&&((VJ (P:=P) (ct:=ct)).b_&&((eN (P:=P) (ct:=ct)).b_&&(eMt (P:=P) (ct:=ct)).b_)))&&((tC ct 2 "scan"&&(tC ct 5 "n"&&tC ct 4 "intervals"))&&(ct.tb&&ct.cq)))=true)
  {F:Fd} {G:BM} {ρ:ae au} {s:ar} (O:gH P ct F) (R:RF F ct.aR G ρ σ s) {Q:am->ar->Prop} (k:∀v s' G2 ZB,dC G G2->Ext ρ ZB->RF F ct.aR G2 ZB σ s'->VR G2 ZB (.bG ks us) v->Q v s'):
  cK P.j (aE P.prog P.w) F.A (eval (.Call (.Name "chosen_conditioning" ⟨487,11,487,30⟩) [(VJ (P:=P) (ct:=ct)).bA,(eN (P:=P) (ct:=ct)).bA, .Name "MOST_TRIED" ⟨487,40,487,50⟩,Pr b] [] ⟨487,11,487,115⟩) F.env) Q s:=by
 have ca:=aG (aG c).1
 have ca2:=aG ca.2
 have ca3:=aG ca2.2
 have cb:=aG (aG c).2
 have m1:=aG cb.1
 have m2:=aG m1.2
 have e:=aG m1.1
 have e':=aG m2.1
 have e'':=aG m2.2
 have tq:=aG cb.2
 obtain⟨l,m⟩:=σ
 cases(show m=[.tab] from L.m)
 refine X.pT ((eCh (P:=P) (ct:=ct)).J2 ca.1 O R (V:= .fn 68) ⟨rfl,rfl⟩ λ dU c6 u s₁ fG fb dQ va=>?_)
 obtain⟨rfl,o,fd,ho,hd⟩:=va
 refine X.t_ (Pm:=λ h=>∃o fd,h.get? 68=af o/\o.data= .func fd) rfl z4 (X.k9 rfl ((VJ (P:=P) (ct:=ct)).J2 ca2.1 O dQ (V:=sc) (OQ (L.l.1.symm▸z6 L.u.1 ⟨rfl,rfl⟩)) λ jn gZ w2 bp jd jr gJ v2=>X.k9 rfl ((eN (P:=P) (ct:=ct)).J2 ca3.1 O gJ (V:=nn) (Tl (L.l.2.1.symm▸z6 L.u.2.1 ⟨rfl,rfl⟩)) λ rJ kZ w5 fS ku kJ lu v5=>
  X.k9 rfl ((eMt (P:=P) (ct:=ct)).J2 ca3.2 O lu (V:= .int 5) ⟨rfl,rfl⟩ λ SI Nz w6 sY Ca Dz pP v6=>?_))))
 have hρ:Nz=[dL]:=acf pP.rm.len (pP.ext.get (O.tb tq.1))
 subst hρ
 refine(zE O pP (be.mp e''.1) (be.mp e''.2) L.l.2.2 L.u.2.2).elim λ d1 k1=>(zE O pP (be.mp e'.1) (be.mp e'.2) L.l.2.1 L.u.2.1).elim λ d2 k2=>(zE O pP (be.mp e.1) (be.mp e.2) L.l.1 L.u.1).elim λ d3 k3=>?_
 have ne:∀{x y:bM} {c d:au},F.env.cells.lookup x=af c->F.env.cells.lookup y=af d->x≠y->c≠d:=λ ex ey n q=>n (pP.pY _ _ _ ex (q▸ey))
 have g14:dC dU SI:=jd.trans (ku.trans Ca)
 exact X.k9 rfl (X.any (LB (b:=b) O pP tq.2 k1.1 k2.1 k3.1 λ lf c' s' m=>X.any (Bh ⟨⟨o,fd,m.keep _ _ (by decide) (pP.rm.kg _ _ (g14 _ _ ho)),hd⟩,LA (σ:=⟨l,[.tab]⟩) O pP k1.2 k2.2 k3.2 (ne k1.1 k2.1 (by decide)) (ne k1.1 k3.1 (by decide)) (ne k2.1 k3.1 (by decide)) L.cl m L.hi
  (.cons (v2.up (ku.trans Ca) (kJ.trans Dz)) (.cons (v5.up Ca Dz) (.cons v6 .nil))) (L.H lf) λ v s'' G2 g AW vv=>k v s'' G2 [dL] (fG.trans (g14.trans g)) (fb.trans (jr.trans (kJ.trans Dz))) AW vv⟩)))
def Qu(b:SE P Gi):SX P ct where
 bA:= .Return (af (.Call (.Name "chosen_conditioning" ⟨487,11,487,30⟩) [(VJ (P:=P) (ct:=ct)).bA,(eN (P:=P) (ct:=ct)).bA, .Name "MOST_TRIED" ⟨487,40,487,50⟩,Pr b] [] ⟨487,11,487,115⟩)) ⟨487,4,487,115⟩
 run:=λ σ K=>∃sc nn iv ks us,V6 P b σ ks us sc nn iv/\K (.ret (.bG ks us)) σ
 b_:=((eCh (P:=P) (ct:=ct)).b_&&((VJ (P:=P) (ct:=ct)).b_&&((eN (P:=P) (ct:=ct)).b_&&(eMt (P:=P) (ct:=ct)).b_)))&&((tC ct 2 "scan"&&(tC ct 5 "n"&&tC ct 4 "intervals"))&&(ct.tb&&ct.cq))
 ok:=λ c F G ρ σ s Kv O R h=>h.elim λ aa h=>h.elim λ aa h=>h.elim λ aa h=>h.elim λ ks h=>h.elim λ us h=>X.t7 (Pt h.1 c O R λ v s' G2 ZB g x R' vv=>⟨G2,ZB, .ret _,σ,g,x,R',⟨v,rfl,vv⟩,h.2⟩)
theorem pa.take{f:au}{dr:ae AV}{F:Fd}{G:BM}{ρ:ae au}{σ:St}{s:ar}{vs:ae am}{Kv:AV->St->Prop}(O:gH P ct F)(ht:ct.tb=true)(R:RF F ct.aR G ρ σ s)(va:bI G ρ dr vs)
  (h:pa P f dr σ.mem λ v m'=>Kv v ⟨σ.loc,m'⟩):WP P F.A (call (.ref f) vs []) (PE F ct.aR G ρ Kv) s:=
 X.calls (X.eh (h.run F.A G ρ s vs (R.ext.get (O.tb ht)) O.room (R.i7 O) R.rm va) λ r s' z=>z.u (Q:=λ r s'=>match r with | .ok (.ret v)=>PE F ct.aR G ρ Kv v s'|_=>False) λ v z=>z.pe R)
noncomputable def Vu(f:SE P ct)(as:SL P ct)(p:c7):SE P ct where
 bA:= .Call f.bA as.bA [] p
 run:=λ σ K=>f.run σ λ fv aI=>Yp fv λ g=>as.run aI λ vs aU=>pa P g vs aU.mem λ v m'=>K v ⟨aU.loc,m'⟩
 b_:=isNm f.bA&&(ct.tb&&(f.b_&&as.b_))
 star:=λ aa aa=>rfl
 ok:=λ c F G ρ σ s Kv O R h=>have hf:=wH (aG c).1; have c:=(aG c).2; have ca:=aG (aG c).2
  zD f as hf ca.1 ca.2 O R h λ g vs us jn gZ aU bp le x gJ qW cU=>X.mono (pa.take O (aG c).1 gJ qW cU) λ aa aa z=>PE.up le x z
end
section
variable{prog:aK}{w:bw}{K:Type}[DecidableEq K]{knd:HeapKind prog w K}{A:bn}{E:am->ar->Prop}{s:ar}
theorem Uc{α β:Type}{l l':ae (α×β)}{i:Nat}{x y:α×β}(hk:l.map (·.1)=l'.map (·.1))(hx:l[i]?=af x)(hy:l'[i]?=af y):y.1=x.1:=
 ak (((ah (e6 Prod.fst) hy).symm.trans eM.symm).trans ((ah (λ l=>l[i]?) hk.symm).trans (eM.trans (ah (e6 Prod.fst) hx))))
theorem GH{α β:Type}{l l':ae (α×β)}(hk:l.map (·.1)=l'.map (·.1)):l.length=l'.length:=(bJ _).symm.trans ((ah fU hk).trans (bJ _))
theorem Fg{nm:cR}{a b:au}{ka kb:ae (K×au×am)}{Q:aC->ar->Prop}(hu:knd.room A)(ha:(a==df)=false)(hb:(b==df)=false)(da:s.heap.DictOfH knd a ka)(db:s.heap.DictOfH knd b kb)
  (hk:ka.map (·.1)=kb.map (·.1)) (hv:∀(j:Nat) x y,ka[j]?=af x->kb[j]?=af y->SeqAt.EqAt A s x.2.2 y.2.2 true) (h:Q true s):aH (aE prog w) A (Builtin.Dict.samePairs nm a b) Q E s:=by
 rcases da with⟨oa,es,ep,RR,_,ZV,hea,hia,hna⟩
 rcases db with⟨ob,A0,Jw,hob,_,hdb,heb,hib,ZZ⟩
 have hla:=size_of_entries hea
 have hsz:es.size=A0.size:=hla.trans ((GH hk).trans (size_of_entries heb).symm)
 unfold Builtin.Dict.samePairs Builtin.Dict.showsAll
 rw[ha,hb,bC aV]
 refine aj (aw (aj (aw (aj (ed RR ZV ?_)))))
 refine aj (ed hob hdb ?_)
 rw[hsz,lI,bC aV,← hsz]
 refine aj (nt RR ZV (aj ?_))
 rw[mW]
 refine wpAny_forIn_list _ (λ rest q s'=>s'=s/\q=(none,())/\∃i n,rest=gM i n/\i+n=es.size) _ ?_ ?_ _ _ ⟨rfl,rfl,0,es.size,ah (gM 0) ((Nat.div_one _).trans rfl),fm _⟩
 ·rintro x rest q s' ⟨rfl,rfl,i,n,hr,hi⟩
  cases n with
  |zero=>exact nomatch hr
  |succ n=>
   have e1:x=i:=A8 hr
   have e2:rest=gM (i+1) n:=A9 hr
   subst e1 e2
   have l1:x < ka.length:=hla▸hi▸DB (uG n)
   have⟨X,hx⟩:∃X,ka[x]?=af X:=⟨_,d8 l1⟩
   have⟨Y,hy⟩:∃Y,kb[x]?=af Y:=⟨_,d8 (GH hk▸l1)⟩
   have hy':kb[x]?=af (X.1,Y.2):=hy.trans (ah (λ k=>af (k,Y.2)) (Uc hk hx hy))
   refine aj (ed RR ZV ?_)
   rw[(entry_at hea x).trans (ah (e6 _) hx)]
   refine aj (bS (aj (wpAny_dictFind_heap hu (hia _ (dy hx)) hob hdb heb hib ZZ (λ hn=>bt hy' (hn x _)) λ j p hj=>?_)))
   have ej:x=j:=idxH_unique ZZ hy' hj
   subst ej
   refine aj (ed hob hdb ?_)
   rw[(entry_at heb x).trans (ah (e6 _) hy)]
   refine bS (hv x _ _ hx hy prog w _ _ ?_)
   refine(?_:aH _ _ (if (!true)=true then _ else _) _ _ _)
   rw[iK,bC aV]
   refine aj (nt RR ZV ?_)
   rw[lI,bC aV]
   exact aw ⟨rfl,rfl,x+1,n,rfl,(cT x 1 n).trans hi⟩
 ·rintro q s' ⟨rfl,rfl,_⟩
  exact aw h
theorem neH{a b:au}{ka kb:ae (K×au×am)}{Q:am->ar->Prop}(hu':knd.room A.in1)(ha:(a==df)=false)(hb:(b==df)=false)(da:s.heap.DictOfH knd a ka)(db:s.heap.DictOfH knd b kb)(hu:A.units < qI)
  (hk:ka.map (·.1)=kb.map (·.1)) (hv:∀(j:Nat) x y,ka[j]?=af x->kb[j]?=af y->SeqAt.EqAt A.in1 s x.2.2 y.2.2 true) (h:Q (.bool false) s):aH (aE prog w) A (dw .NotEq (.ref a) (.ref b)) Q E s:=by
 refine wpAny_richCompare_same_room (op:= .NotEq) da.typeIs db.typeIs Ba (cA Ba da.typeIs PySem.F.entry_dict_ne ?_ (PySem.F.args_dict_ne_2 _ _)) hu
 show aH _ _ (Builtin.Dict.dictSlotArgs "__ne__" ⟨[.ref a, .ref b],[]⟩>>=_) _ _ s
 refine aj ?_
 unfold Builtin.Dict.dictSlotArgs
 refine aj (mf da.typeIs ?_)
 show aH _ _ (pure (dp a,dp b)) _ _ s
 refine aw ?_
 refine aj (eK (T:="dict") db.typeIs PySem.F.sub_dict_dict ?_)
 rw[iK,bC aV]
 refine aj (aw (aj (aw ?_)))
 refine aj (Fg hu' ha hb da db hk hv ?_)
 refine aw ⟨_,rfl,?_,?_⟩
 ·exact λ x=>nomatch x
 ·exact h
end
section
variable{P:cC}{ct:Ct}
def WH(a b:AV)(mem:ae AO)(K:aC->Prop):Prop:=lX a mem λ ks us=>lX b mem λ xt rl=>ks=xt/\us=rl/\s9 us/\K false
theorem s9.get:∀{us:ae AV} {i:Nat} {v:AV},s9 us->us[i]?=af v->∃k,v= .int k
 |v::r,0,_,h,e=>by cases e; exact h.1
 |v::r,i+1,_,h,e=>s9.get (us:=r) h.2 e
noncomputable def Y6(l r:SE P ct)(p:c7):ST P ct where
 bA:= .Compare l.bA [.NotEq] [r.bA] p
 run:=λ σ K=>l.run σ λ a aI=>r.run aI λ b aU=>WH a b aU.mem λ c=>K c aU
 b_:=vg 3 r.bA&&(l.b_&&r.b_)
 ok:=λ c F G ρ σ s Kv O R h=>have d:=(w8 (aG c).1).2; have c:=(aG c).2; X.isTrue_Compare1 (d _) (SE.then l r (aG c).1 (aG c).2 O R h λ G' ρ' a b u v bZ s' g x R' va vb kk=>by
  obtain⟨d,o,xs,ks,us,rfl,ho,hc,ns,D,e1,e2,e3,kk⟩:=lz O R' va kk
  obtain⟨d',o',xs',xt,rl,rfl,EF,ZU,A4,D',e1',e2',e3',rfl,rfl,hi,hk⟩:=lz O R' vb kk
  have room:(g5 (cD P.prog P.w)).room F.A.in1:=by show F.A.units+1 < qI; have:=O.room.2.1; show _ < 9900; omega
  refine X.any (neH (knd:=g5 (cD P.prog P.w)) room (by simpa using ns) (by simpa using A4) D D' (by have:=O.room.2.1; show _ < 9900; omega) (e1.trans e1'.symm) (λ j x y hx hy=>?_) (X.any (pG ⟨G',ρ',bZ,g,x,R',hk⟩)))
  have q1:(xs.map (·.2.2))[j]?=af x.2.2:=by rw[eM,hx]; rfl
  have q2:(xs'.map (·.2.2))[j]?=af y.2.2:=by rw[eM,hy]; rfl
  have hj:j < us.length:=by
   have:=(jk.mp q1).1
   rw[e2.length] at this; exact this
  obtain⟨z1,hz1,w1⟩:=e2.get (d8 hj)
  obtain⟨z2,hz2,w2⟩:=e2'.get (d8 hj)
  rw[q1] at hz1; cases hz1
  rw[q2] at hz2; cases hz2
  obtain⟨k,ek⟩:=hi.get (d8 hj)
  rw[ek] at w1 w2
  obtain⟨t,et⟩:=w1.Mh
  obtain⟨t',et'⟩:=w2.Mh
  rw[et,et']
  have:=SeqAt.EqAt.int_int (A:=F.A.in1) (s:=s') k t k t'
  simpa using this)
end
noncomputable def U3(a b:aC):ae Nat:=aY a (aY b [0,1] [0]) (aY b [1] [])
def tS(led a b:aC):SetTable:={mask:=7,place:=(U3 a b).toArray,dummies:=#[],finger:=0,led:=led,moves:=0,plain:=true}
noncomputable def eS(a b:aC)(t u:j_):bD (Int×am):=aY a (aY b #[(0, .int 0 t),(1, .int 1 u)] #[(0, .int 0 t)]) (aY b #[(1, .int 1 u)] #[])
def oS(led a b:aC)(t u:j_)(ep:Nat):Obj:={cls:= .type "set",dict:=none,data:= .set (eS a b t u) ep (tS led a b),slots:=#[]}
def SJ(led:aC)(h:Heap)(S:au)(a b:aC):Prop:=∃t u ep,h.get? S=af (oS led a b t u ep)
theorem lay0{led b:aC}{t u x:j_}:layNew (tS led false b) (eS false b t u) 0 (.int 0 x)=(eS true b x u,tS led true b,false,false):=by
 cases b<;>kernel_rfl
theorem abK{led a:aC}{t u x:j_}:layNew (tS led a false) (eS a false t u) 1 (.int 1 x)=(eS a true t x,tS led a true,false,false):=by
 cases a<;>kernel_rfl
theorem full{led a b:aC}:(tS led a b).tooFull=false:=by
 cases a<;>cases b<;>kernel_rfl
theorem szS{a b:aC}{t u:j_}:(eS a b t u).size<=2:=by
 cases a<;>cases b<;>exact aP rfl
theorem wj{led a b:aC}{t u:j_}:(tS led a b).fits (eS a b t u).size=true:=by
 cases a<;>cases b<;>kernel_rfl
section
variable{prog:aK}{w:bw}{A:bn}{E:am->ar->Prop}{s:ar}
theorem ZN{a b:aC}{t u:j_}:ElemsOf (cD prog w) (eS a b t u).toList:=by
 intro e he
 have h:e=(0, .int 0 t)\/e=(1, .int 1 u):=by
  cases a<;>cases b<;>simp [eS] at he
  ·exact .inr he
  ·exact .inl he
  ·exact he
 rcases h with rfl|rfl
 ·exact⟨⟨0,vH _ _ _ _,rfl⟩,rfl⟩
 ·exact⟨⟨1,vH _ _ _ _,rfl⟩,rfl⟩
theorem F1{S:au}{led a b a' b':aC}{t u t' u' x:j_}{v:Int}{ep:Nat}{Q:aC->ar->Prop}(ho:s.heap.get? S=af (oS led a b t u ep))
  (hf:(eS a b t u).toList.findIdx? (λ e=>(cD prog w).is v e.2)=none) (hl:layNew (tS led a b) (eS a b t u) v (.int v x)=(eS a' b' t' u',tS led a' b',false,false)) (hh:(cD prog w).hash v=v)
  (h:∀h',kS S s.heap h'->h'.get? S=af (oS led a' b' t' u' (ep+1))->Q true {s with heap:=h'}):
  aH (aE prog w) A (rG S (.int v x) ((cD prog w).hash v)) Q E s:=by
 unfold rG setAddHashedIn
 refine bS (aj (lH ho rfl wj ?_))
 dsimp only
 rw[byScan_of (knd:=cD prog w) rfl (aS szS (by decide)) ZN]
 simp only[↓zk]
 unfold setAddByScan
 refine aj ?_
 refine aj (mv ?_)
 refine aj (wpAny_setScan_of (vH _ _ _ _) ho rfl wj ZN ?_)
 rw[hf]
 dsimp only
 rw[hh,hl]
 dsimp only
 refine aj (aw ?_)
 rw[show(tS led a' b').plain=true from rfl]
 simp only[↓zk]
 refine aj ?_
 rw[hashByValue_scannable 8 rfl]
 refine aw ?_
 rw[show plainKind (.int v x)=true from rfl]
 simp only[↓zk]
 refine aj (wpAny_storeSet_of ho rfl ?_ (aF szS (by rw[dX]; decide)))
 rw[full]
 simp only[mX,s7,↓zk]
 refine aw ?_
 dsimp only
 refine aw (h _ (dB _ _ _) ?_)
 exact dI (Obj.putSet (eS a' b' t' u') (tS led a' b')) ho rfl
theorem zr{S:au}{led a b:aC}{t u x:j_}{v:Int}{ep i:Nat}{Q:aC->ar->Prop}(ho:s.heap.get? S=af (oS led a b t u ep))
  (hf:(eS a b t u).toList.findIdx? (λ e=>(cD prog w).is v e.2)=af i) (h:Q false s):
  aH (aE prog w) A (rG S (.int v x) ((cD prog w).hash v)) Q E s:=by
 unfold rG setAddHashedIn
 refine bS (aj (lH ho rfl wj ?_))
 dsimp only
 rw[byScan_of (knd:=cD prog w) rfl (aS szS (by decide)) ZN]
 simp only[↓zk]
 unfold setAddByScan
 refine aj ?_
 refine aj (mv ?_)
 refine aj (wpAny_setScan_of (vH _ _ _ _) ho rfl wj ZN ?_)
 rw[hf]
 dsimp only
 exact aw (aw h)
theorem Wh{S:au}{led a b:aC}{x:j_}{v:Int}{Q:aC->ar->Prop}(hv:v=0\/v=1)(hS:SJ led s.heap S a b)
  (h:∀r h',kS S s.heap h'->SJ led h' S (a||v==0) (b||v==1)->Q r {s with heap:=h'}):
  aH (aE prog w) A (rG S (.int v x) ((cD prog w).hash v)) Q E s:=by
 obtain⟨t,u,ep,ho⟩:=id hS
 rcases hv with rfl|rfl
 ·cases a with
  |true=>
   refine zr (i:=0) ho (by cases b<;>rfl) ?_
   have:=h false s.heap (qn _ _) (by cases b<;>exact hS)
   exact this
  |false=>
   refine F1 (a':=true) (b':=b) (t':=x) (u':=u) ho (by cases b<;>rfl) lay0 rfl λ h' sb e=>h true h' sb ?_
   cases b<;>exact⟨_,_,_,e⟩
 ·cases b with
  |true=>
   cases a with
   |true=>exact zr (i:=1) ho rfl (h false s.heap (qn _ _) hS)
   |false=>exact zr (i:=0) ho rfl (h false s.heap (qn _ _) hS)
  |false=>
   refine F1 (a':=a) (b':=true) (t':=t) (u':=x) ho (by cases a<;>rfl) abK rfl λ h' sb e=>h true h' sb ?_
   cases a<;>exact⟨_,_,_,e⟩
noncomputable def seen(val:Nat->Int)(k:Int):Nat->aC
 |0=>false
 |i+1=>seen val k i||val i==k
def SV(led:aC)(val:Nat->Int)(i:Nat)(h:Heap)(S:au):Prop:=SJ led h S (seen val 0 i) (seen val 1 i)
theorem MX{R:iP->ar->Prop}{I:au}{fp wr:ae au}{G:bD d6->bD d6->Prop}{n:Nat}{P:Nat->am->Prop}{St:Nat->ar->Prop}{led:aC}
  (W:WalksS prog w A.in1 I fp wr G n P St) (S:au) (hSf:S∉fp) (val:Nat->Int) (Li:∀i v,P i v->(val i=0\/val i=1)/\∃t,v= .int (val i) t):
  ∀(k i:Nat) (s:ar),n - i=k->i<=n->St i s->SV led val i s.heap S->
   (∀s',Moved (S::wr) G s s'->SV led val n s'.heap S->R (.ok (.ret .none)) s')->
   codeAny (aE prog w) A (.builtin "set.update.loop" ⟨[.ref S, .ref I],[]⟩) R s:=by
 have hSw:S∉wr:=λ h=>hSf (W.sub _ h)
 have zW:∀b∈wr,b∈S::wr:=λ b hb=>aQ _ hb
 intro k
 induction k with
 |zero=>
  intro i s hk hi hst hS hR
  have hin:i=n:=by omega
  subst hin
  refine kV ou ?_
  rw[ew iJ _]
  show aH _ A.in1 (gG (.ref I)>>=_) _ _ s
  refine aj (W.done s _ _ hst λ s' hm=>?_)
  show aH _ A.in1 (ret c8) _ _ s'
  exact aw (hR s' (hm.mono zW) (by
   obtain⟨t,u,ep,ho⟩:=hS
   exact⟨t,u,ep,hm.heap S _ hSw ho⟩))
 |succ k ih=>
  intro i s hk hi hst hS hR
  have Iu:i < n:=by omega
  refine kV ou ?_
  rw[ew iJ _]
  show aH _ A.in1 (gG (.ref I)>>=_) _ _ s
  refine aj (W.item i s _ _ Iu hst λ v s' hP abq hm=>?_)
  obtain⟨hv,t,rfl⟩:=Li i v hP
  have Xh:SV led val i s'.heap S:=by
   obtain⟨t,u,ep,ho⟩:=hS
   exact⟨t,u,ep,hm.heap S _ hSw ho⟩
  show aH _ A.in1 (holding [eA (val i) t] (setAdd S (.int (val i) t))>>=_) _ _ s'
  refine aj (bS ?_)
  unfold setAdd
  refine bS ?_
  refine aj ((cD prog w).pyHash (k:=val i) (vH _ _ _ _) ?_)
  refine Wh (s:={s' with toks:=s'.toks+1}) hv Xh λ r h' RS hS2=>?_
  refine aw ⟨kO iJ _,ih (i+1) _ (by omega) Iu (W.frame _ s' _ _ abq (xm _) λ b hb o e=>?_) hS2 λ s'' abc aa1=>?_⟩
  ·rw[RS.2 b (λ h:b=S=>hSf (by rw[← h]; exact hb))]; exact e
  ·refine hR s'' (Moved.trans W.gtrans ((hm.mono zW).then_heap (xm _) λ b o hb e=>?_) abc) aa1
   rw[RS.2 b (λ h:b=S=>hb (by rw[h]; exact aW))]; exact e
noncomputable def kQ(w:bw):aC:=!w.params.followText "set-order"
theorem QB{a:am}{Q₁:am->ar->Prop}
  (h:Q₁ (.ref s.heap.objs.size) {s with heap:=s.heap.push {cls:= .type "set",dict:=none,data:= .set #[] 0 (.fresh 0 0 (kQ w))}}):
  codeAny (aE prog w) A (.call (.builtin "set.__new__") ⟨[.type "set",a],[]⟩) (wants Q₁ E) s:=by
 refine Bd ?_
 show aH _ A.in1 (do iw "set.__new__" ⟨[.type "set",a],[]⟩; qH (.builtin "set.__new__" ⟨[.type "set",a],[]⟩)) _ _ s
 refine aj (bu (PySem.F.newCall_set_1 a) (aw ⟨kO AK _,kV PySem.F.entry_set_new ?_⟩))
 rw[ew AK _]
 unfold b7.«set.__new__» Builtin.Frozenset.newClass
 have zW:=sub_set_self
 obtain⟨hp,g,d,tk,os⟩:=s
 dsimp only
 wp_walk
 refine iA (aw ?_)
 dsimp only
 simp only[newObj]
 refine aj (wpAny_alloc (aw ?_))
 exact aw h
theorem Fk{S l:au}{items:bD am}{val:Nat->Int}{R:iP->ar->Prop}(hh:A.handled=none)(hS:s.heap.get? S=af (oS (kQ w) false false default default 0))(hl:s.heap.IsList l items)
  (hlS:l < S) (Li:∀(i:Nat) (v:am),items[i]?=af v->(val i=0\/val i=1)/\∃t,v= .int (val i) t)
  (h:∀h' tk,SV (kQ w) val items.size h' S->(∀b o,b≠S->s.heap.get? b=af o->h'.get? b=af o)->R (.ok (.ret .none)) {s with heap:=h',toks:=tk}):
  aH (aE prog w) A.in1 (b7.«set.__init__» ⟨[.ref S, .ref l],[]⟩) (λ fin s'=>match fin with | .done f=>R (.ok f) s' | .again c'=>c'.quiet=true/\codeAny (aE prog w) A c' R s') (λ e s'=>R (.error e) s') s:=by
 obtain⟨ol,Z1,hcl,nl,hdl⟩:=id hl
 have hT:s.TypeIs (.ref S) "set":=⟨_,hS,rfl⟩
 have hTl:s.TypeIs (.ref l) "list":=⟨_,Z1,hcl⟩
 have zW:=rA.sub
 have afx:=PySem.F.sub_list_set
 have afw:=PySem.F.sub_list_frozenset
 have Iv:(cQ "list"==cQ "dict")=false:=by decide
 unfold b7.«set.__init__» noKeywords Builtin.Frozenset.updateFrom
 generalize hPI:iz=PI
 wp_walk
 subst hPI
 refine xE hl (aj (wpAny_runValue ?_))
 have hSs:S < s.heap.objs.size:=b8 hS
 refine MX (led:=kQ w) ((Walks.list (show A.in1.in1.handled=none from hh) _ l (dN (b9 hlS hSs)) items).toS) S (λ m=>(bW.mp m).elim (dN hSs) λ m=>uF hlS (aZ.mp m))
  val Li items.size 0 _ (Nat.sub_zero _) (ot _) ⟨⟨_,aN _ rfl,rfl,rfl⟩,hl.push _⟩ ⟨default,default,0,aA _ hS⟩ λ s' hm Xh=>?_
 obtain⟨h',g',d',tk',os'⟩:=s'
 obtain rfl:g'=s.gens:=hm.gens
 obtain rfl:d'=s.drawn:=hm.drawn
 obtain rfl:os'=s.os:=hm.os
 refine aw ?_
 show aH _ _ (ret c8) _ _ _
 exact aw (h h' tk' Xh λ b o n e=>hm.heap b o (λ m=>(bW.mp m).elim n λ m=>dN (b8 e) (aZ.mp m)) (aA _ e))
theorem Eg{l:au}{items:bD am}{val:Nat->Int}{Q:am->ar->Prop}
  (hh:A.handled=none) (hl:s.heap.IsList l items) (Li:∀(i:Nat) (v:am),items[i]?=af v->(val i=0\/val i=1)/\∃t,v= .int (val i) t)
  (h:∀(h':Heap) (tk:Nat),SV (kQ w) val items.size h' s.heap.objs.size->
   (∀b o,s.heap.get? b=af o->h'.get? b=af o)->Q (.ref s.heap.objs.size) {s with heap:=h',toks:=tk}):
  aH (aE prog w) A (call (.type "set") [.ref l]) Q dq s:=by
 refine X.back (X.yt (Q₁:=λ obj s₁=>obj= .ref s.heap.objs.size/\s₁={s with heap:=s.heap.push (oS (kQ w) false false default default 0)}) rA (PySem.F.typeCall_set_1 (.ref l)) (λ A'=>QB ⟨rfl,rfl⟩) λ obj s₁ z=>?_)
 obtain⟨rfl,rfl⟩:=z
 have hS:(s.heap.push (oS (kQ w) false false default default 0)).get? s.heap.objs.size=af (oS (kQ w) false false default default 0):=aN _ rfl
 obtain⟨ol,Z1,ZY⟩:=hl
 refine⟨⟨_,hS,rfl⟩,X.any (vI (codeAny_call_builtin rA.init.plain PySem.F.entry_set_init (check_set_init_1 ⟨_,hS,rfl⟩ ?_)))⟩
 refine Fk (A:=A.in1) (R:=λ r s'=>match r with | .ok (.ret v)=>v= .none/\Q (.ref s.heap.objs.size) s' | .ok _=>False | .error e=>False) hh hS ⟨ol,aA _ Z1,ZY⟩ (b8 Z1) Li λ h' tk Xh hk=>?_
 exact⟨rfl,h h' tk Xh λ b o e=>hk b o (dN (b8 e)) (aA _ e)⟩
end
theorem wf:fu table "set.__iter__"=af b7.«frozenset.__iter__»:=
 DR (id':="frozenset.__iter__") (by kernel_rfl) rfl (by decide+kernel) (by kernel_rfl)
theorem xW:fu table "set_iterator.__iter__"=af b7.«dict_keyiterator.__iter__»:=
 DR (id':="dict_keyiterator.__iter__") (by kernel_rfl) rfl (by decide+kernel) (by kernel_rfl)
theorem q7:fu table "set_iterator.__next__"=af b7.«set_iterator.__next__»:=eJ (by kernel_rfl)
theorem i3:Bb "set_iterator" "__next__" "set_iterator.__next__":=
 .of (owner:="set_iterator") (n:="__next__") (by rw[bF,aX]; kernel_rfl) (by decide+kernel) (by decide+kernel) (by decide+kernel)
  (by first|exact .inl (by decide+kernel)|exact .inr (by decide+kernel)) (by rw[ch]; kernel_rfl)
theorem sX:Bb "set_iterator" "__iter__" "set_iterator.__iter__":=
 .of (owner:="set_iterator") (n:="__iter__") (by rw[bF,aX]; kernel_rfl) (by decide+kernel) (by decide+kernel) (by decide+kernel)
  (by first|exact .inl (by decide+kernel)|exact .inr (by decide+kernel)) (by rw[ch]; kernel_rfl)
theorem CZ:Manifest.owners.lookup (String.ofList ['r','o','t','a','r','e','t','i','_','t','e','s'].reverse)=af Manifest.sig_set_iterator:=by kernel_rfl
theorem sm(a:am):hO "set_iterator.__next__" ⟨[a],[]⟩:=by
 unfold hO; rw[signature?_of (id:="set_iterator.__next__") (n:=['_','_','t','x','e','n','_','_']) (o:=['r','o','t','a','r','e','t','i','_','t','e','s']) (by kernel_rfl) CZ]; kernel_rfl
theorem zv(a:am):hO "set_iterator.__iter__" ⟨[a],[]⟩:=by
 unfold hO; rw[signature?_of (id:="set_iterator.__iter__") (n:=['_','_','r','e','t','i','_','_']) (o:=['r','o','t','a','r','e','t','i','_','t','e','s']) (by kernel_rfl) CZ]; kernel_rfl
def VS(led a b:aC)(i:Nat):Nat:=aY led ((0::(U3 a b).map (·+1)).getD i 0) 0
def uT(w:bw)(S:au)(a b:aC)(t u:j_)(ep:Nat):bD (Int×am):=aY (kQ w) (eS a b t u) (pickOrder (w.params.setOrder S ep) (eS a b t u))
def M8(a b:aC):Nat:=(U3 a b).length
theorem Aw{a b:aC}{t u:j_}:(eS a b t u).size=M8 a b:=by cases a<;>cases b<;>rfl
def JG(led:aC)(h:Heap)(I S:au)(a b:aC)(ep i:Nat):Prop:=∃o,h.get? I=af o/\o.cls= .type "set_iterator"/\o.data= .fields #[.int (VS led a b i:Int) 0, .int i 0, .ref S, .int (M8 a b:Int) 0, .int ep 0]
section
variable{prog:aK}{w:bw}{A:bn}{E:am->ar->Prop}{s:ar}
theorem w7(nm:cR)(v:am):slotArgs nm 0 ⟨[v],[]⟩=pure (v,[]):=rfl
theorem IE{S:au}{led a b:aC}{t u:j_}{ep:Nat}{Q:aC->ar->Prop}(ho:s.heap.get? S=af (oS led a b t u ep))(h:Q false s):aH (aE prog w) A (setDrawn S) Q E s:=by
 unfold setDrawn setsByText
 refine aj (lH ho rfl wj ?_)
 refine aj (aj (iA (aw ?_)))
 refine aw ?_
 have e:∀x:aC,(x&&false)=false:=λ x=>mX x
 show Q (!_&&false) s
 rw[e]
 exact h
theorem Lu{S:au}{led a b:aC}{t u:j_}{ep:Nat}{Q:am->ar->Prop}(ho:s.heap.get? S=af (oS led a b t u ep))
  (hQ:Q (.ref s.heap.objs.size) {s with heap:=s.heap.push {cls:= .type "set_iterator",data:= .fields #[.int 0 0, .int 0 0, .ref S, .int (M8 a b:Int) 0, .int ep 0]}}):
  aH (aE prog w) A (iz (.ref S)) Q E s:=by
 have hT:s.TypeIs (.ref S) "set":=⟨_,ho,rfl⟩
 refine xF hT AL (cA AL hT wf ?_ (PySem.F.args_set_iter_1 _))
 unfold b7.«frozenset.__iter__» Builtin.Frozenset.slot0
 refine aj (aj (bu (w7 _ _) (bu (a:=S) rfl (aj ?_))))
 unfold Builtin.Frozenset.sizeOf
 refine aj (uI ho rfl wj (aw ?_))
 refine aj (IE ho ?_)
 rw[bC aV]
 refine aj (aw ?_)
 refine aj (wpAny_setEpoch_of ho rfl wj ?_)
 refine aj (cO (aw ⟨_,rfl,"set_iterator",_,⟨_,aN _ rfl,rfl⟩,i3.lookup,?_⟩))
 exact(ah (λ n:Nat=>Q (.ref s.heap.objs.size) {s with heap:=s.heap.push {cls:= .type "set_iterator",data:= .fields #[.int 0 0, .int 0 0, .ref S, .int (n:Int) 0, .int ep 0]}}) Aw).mpr hQ
theorem y9{S:au}{a b:aC}{t u:j_}{ep i:Nat}{Q:aq (am×Nat)->ar->Prop}(hi:i<=M8 a b)(ho:s.heap.get? S=af (oS (kQ w) a b t u ep))
  (h:Q (((uT w S a b t u ep)[i]?).map λ e=>(e.2,VS (kQ w) a b (i+1))) s):aH (aE prog w) A (setNext S (VS (kQ w) a b i) i ep) Q E s:=by
 unfold uT kQ at h
 unfold kQ at ho ⊢
 unfold setNext setsByText
 refine aj (lH ho rfl wj ?_)
 refine aj (aj (iA (aw ?_)))
 dsimp only
 cases hb:w.params.followText "set-order" with
 |true=>
  rw[hb] at h ho
  rw[show(aE prog w).w.params.followText "set-order"=true from hb]
  rw[dj rfl,lI,bC aV]
  refine aj ?_
  unfold setWalk setsByText
  refine aj (lH ho rfl wj ?_)
  refine aj (aj (iA (aw ?_)))
  dsimp only
  rw[show(aE prog w).w.params.followText "set-order"=true from hb]
  rw[dj rfl]
  refine aj (iA (aw ?_))
  exact aw h
 |false=>
  rw[hb] at h ho
  rw[show(aE prog w).w.params.followText "set-order"=false from hb]
  rw[bC aV]
  refine Bg (λ Xi=>bt (show(false&&_)=true from Xi) (by rw[Bool.false_and]; exact aV)) (λ aa=>?_)
  refine aj (bu (a:=()) rfl ?_)
  refine aw ?_
  have h2:M8 a b<=2:=by cases a<;>cases b<;>decide
  have Xp:i=0\/i=1\/i=2:=by omega
  rcases Xp with rfl|rfl|rfl<;>cases a<;>cases b<;>first|exact h|exact bt hi (by decide)
theorem next_item{I S:au}{a b:aC}{t u:j_}{ep i:Nat}{e:Int×am}{Q:aq am->ar->Prop}(hI:JG (kQ w) s.heap I S a b ep i)(hi:i<=M8 a b)(ho:s.heap.get? S=af (oS (kQ w) a b t u ep))(he:(uT w S a b t u ep)[i]?=af e)
  (hQ:∀h',JG (kQ w) h' I S a b ep (i+1)->vD I s.heap h'->Q (af e.2) {s with heap:=h'}):aH (aE prog w) A (gG (.ref I)) Q E s:=by
 obtain⟨o,h1,h2,h3⟩:=hI
 have hT:s.TypeIs (.ref I) "set_iterator":=⟨o,h1,h2⟩
 unfold gG
 refine aj (kP (c_ (name:=bR "__next__") hT i3
  (cA i3 hT q7 ?_ (sm _))))
 unfold b7.«set_iterator.__next__»
 refine aj (bu (w7 _ _) ?_)
 refine aj (DV h1 h3 ?_)
 dsimp only
 refine aj (uI ho rfl wj ?_)
 rw[Aw,lI,bC aV]
 refine aj (y9 (ep:=ep) (i:=i) hi ho ?_)
 rw[he]
 dsimp only[e6]
 refine aj (oB h1 h3 (show _ < 5 from by decide) ?_)
 have g1:(s.heap.update I (Obj.mapFields (·.setIfInBounds 0 (np ↑(VS (kQ w) a b (i+1)))))).get? I=af (Obj.mapFields (·.setIfInBounds 0 (np ↑(VS (kQ w) a b (i+1)))) o):=dI _ h1 (Obj.isFreed_of_fields (Obj.data_mapFields h3 _))
 refine aj (oB (s:={s with heap:=s.heap.update I (Obj.mapFields (·.setIfInBounds 0 (np ↑(VS (kQ w) a b (i+1)))))}) g1 (Obj.data_mapFields h3 _) (by simp) ?_)
 refine aw ⟨_,rfl,aw (hQ _ ⟨_,dI _ g1 (Obj.isFreed_of_fields (Obj.data_mapFields (Obj.data_mapFields h3 _) _)),(Obj.cls_mapFields ..).trans ((Obj.cls_mapFields ..).trans h2),?_⟩ ?_)⟩
 ·rw[Obj.data_mapFields (Obj.data_mapFields h3 _)]; rfl
 ·exact λ b' o' ZT e'=>((dB ..).trans (dB ..)).extBut b' o' ZT e'
theorem QA{I S:au}{a b:aC}{t u:j_}{ep i:Nat}{Q:aq am->ar->Prop}(hh:A.handled=none)(hI:JG (kQ w) s.heap I S a b ep i)(hi:i<=M8 a b)(ho:s.heap.get? S=af (oS (kQ w) a b t u ep))(he:(uT w S a b t u ep)[i]?=none)
  (hQ:∀h',vD I s.heap h'->Q none {s with heap:=h'}):aH (aE prog w) A (gG (.ref I)) Q E s:=by
 obtain⟨o,h1,h2,h3⟩:=hI
 have hT:s.TypeIs (.ref I) "set_iterator":=⟨o,h1,h2⟩
 unfold gG
 refine aj (kP (c_ (name:=bR "__next__") hT i3
  (cA i3 hT q7 ?_ (sm _))))
 unfold b7.«set_iterator.__next__»
 refine aj (bu (w7 _ _) ?_)
 refine aj (DV h1 h3 ?_)
 dsimp only
 refine aj (uI ho rfl wj ?_)
 rw[Aw,lI,bC aV]
 refine aj (y9 (ep:=ep) (i:=i) hi ho ?_)
 rw[he]
 dsimp only[e6]
 refine aj (oB h1 h3 (show _ < 5 from by decide) ?_)
 show aH _ _ (DT (.type "StopIteration") []>>=_) _ _ _
 refine aj ?_
 unfold DT newTuple
 refine aj (cO ?_ (by size_fits))
 refine aj (m:=jF _ _) (bu (a:=c8) (by first|rfl|(simp only[jF]; rfl)) ?_)
 refine cO ?_ (by size_fits)
 unfold raiseNew
 refine aj (wpAny_handled ?_)
 rw[show A.in1.handled=none from hh]
 refine aj (aw (wpAny_throw ?_))
 refine aj (eK (T:="StopIteration") (b:=true) ⟨_,aN _ rfl,rfl⟩ DS ?_)
 exact aw (hQ _ (((dB ..).extBut.push _).push _))
theorem MP{I S:au}{a b:aC}{ep i:Nat}{led:aC}{Q:am->ar->Prop}(hI:JG led s.heap I S a b ep i)(h:Q (.ref I) s):aH (aE prog w) A (iz (.ref I)) Q E s:=by
 obtain⟨o,h1,h2,h3⟩:=hI
 have hT:s.TypeIs (.ref I) "set_iterator":=⟨o,h1,h2⟩
 refine xF hT sX (cA sX hT xW ?_ (zv _))
 show aH _ _ (ret (.ref I)) _ _ s
 exact aw ⟨_,rfl,"set_iterator",_,hT,i3.lookup,h⟩
theorem RL{α:Type}{f:Nat->Nat}{n k j:Nat}{l:ae α}{out:bD α}(e:f k % l.length=j):rE f (n+1) k l out=match l[j]? with|some x=>rE f n (k+1) (l.eraseIdx j) (out.push x)|none=>out:=
 ah (λ j=>match l[j]? with|some x=>rE f n (k+1) (l.eraseIdx j) (out.push x)|none=>out) e
theorem zU{α:Type}(f:Nat->Nat)(k:Nat)(x:α)(out:bD α):rE f 1 k [x] out=out.push x:=RL (l:=[x]) (Nat.mod_one _)
theorem wJ(S:au)(a b:aC)(t u:j_)(ep:Nat):(uT w S a b t u ep).toList.Perm (eS a b t u).toList:=by
 unfold uT
 cases kQ w with
 |true=>exact .refl _
 |false=>
  show(pickOrder (w.params.setOrder S ep) (eS a b t u)).toList.Perm _
  generalize w.params.setOrder S ep=f
  cases a<;>cases b
  ·exact .refl _
  ·exact .of_eq (ah pn (zU f 0 ((1:Int),eA 1 u) #[]))
  ·exact .of_eq (ah pn (zU f 0 ((0:Int),eA 0 t) #[]))
  ·have z {j:Nat} (e:f 0 % 2=j):=ah pn (RL (n:=1) (l:=[((0:Int),eA 0 t),((1:Int),eA 1 u)]) (out:=#[]) e)
   exact(Nat.mod_two_eq_zero_or_one (f 0)).elim (λ e=> .of_eq ((z e).trans (ah pn (zU f 1 _ _)))) λ e=>(List.Perm.of_eq ((z e).trans (ah pn (zU f 1 _ _)))).trans (.swap _ _ _)
end
section
variable{prog:aK}{w:bw}{A:bn}{E:am->ar->Prop}{s:ar}
theorem vj{S:au}{a b:aC}{t u:j_}{ep:Nat}:(uT w S a b t u ep).size=M8 a b:=by
 rw[← Aw (t:=t) (u:=u),← bf,(wJ S a b t u ep).length_eq,bf]
theorem Ld{S:au}{led a b:aC}{t u:j_}{ep:Nat}{Q:aC->ar->Prop}(ho:s.heap.get? S=af (oS led a b t u ep))(h:Q false s):aH (aE prog w) A (Builtin.List.listLengthHint (.ref S)) Q E s:=by
 have hT:s.TypeIs (.ref S) "set":=⟨_,ho,rfl⟩
 unfold Builtin.List.listLengthHint
 refine aj (cV hT PySem.F.slot_set_len.lookup ?_)
 generalize VM:("set.__len__":cR)=id0
 wp_delta
 rw[show splitId id0=af ("set","__len__") from by subst VM; decide+kernel]
 subst VM
 refine aj (eK (T:="set") (b:=true) hT (by rw[ch]; kernel_rfl) ?_)
 refine Bg (λ Xi=>bt Xi (by decide)) (λ aa=>?_)
 refine Bg (λ aa=>?_) (λ Xi=>bt (by decide+kernel) Xi)
 refine aj (jX hT ?_)
 exact aw h
theorem QI{S:au}{a b:aC}{t u:j_}{ep:Nat}:KdlSrc prog w "set" S S (M8 a b) (λ i v=>∃e,(uT w S a b t u ep)[i]?=af e/\v=e.2) (λ h=>h.get? S=af (oS (kQ w) a b t u ep)) where
 type:=λ aa hm=>⟨_,hm,rfl⟩
 there:=λ aa hm=>⟨b8 hm,b8 hm⟩
 keep:=λ aa aa hm hk=>hk S (.inl rfl) _ hm
 notList:=by decide
 notTuple:=by decide
 hint:=λ aa aa aa aa hm hq=>Ld hm hq
 iter:=λ A s hh hm=>⟨_,λ i h=>JG (kQ w) h s.heap.objs.size S a b ep i/\h.get? S=af (oS (kQ w) a b t u ep)/\i<=M8 a b,(λ aa aa hq=>Lu hm hq),{
   sub:=λ b hb=>by simp at hb; simp [hb]
   frame:=λ i h h' st hk=>⟨let ⟨o,x,y⟩:=st.1; ⟨o,hk _ (by simp) o x,y⟩,hk S (by simp) _ st.2.1,st.2.2⟩
   item:=λ i s' Q E hi st hQ=>by
    have Iv:S≠s.heap.objs.size:=dN (b8 hm)
    have Iu:i < (uT w S a b t u ep).size:=by rw[vj]; exact hi
    refine next_item st.1 st.2.2 st.2.1 (eX Iu) λ h' hI hx=>?_
    exact hQ _ h' s'.toks ⟨_,eX Iu,rfl⟩ ⟨hI,hx S _ Iv st.2.1,hi⟩ λ b o hb e=>hx b o (λ h=>hb (by simp [h])) e
   done:=λ s' Q E st hQ=>QA hh st.1 st.2.2 st.2.1 (A6 (by rw[vj]; exact cE _)) λ h' he'=>hQ h' s'.toks λ b o hb e=>he' b o (λ h=>hb (by simp [h])) e
   self:=λ aa aa aa aa st hQ=>MP st.1 hQ},
  ⟨⟨_,aN _ rfl,rfl,by cases kQ w<;>rfl⟩,aA _ hm,ot _⟩⟩
noncomputable def I2(a b:aC):ae Int:=aY a (aY b [0,1] [0]) (aY b [1] [])
theorem Tq{a b:aC}{t u:j_}:(eS a b t u).toList.map (·.1)=I2 a b:=by cases a<;>cases b<;>rfl
theorem Ts{a b:aC}{t u:j_}{e:Int×am}(h:e∈(eS a b t u).toList):∃x,e.2= .int e.1 x:=by
 have h:e=(0, .int 0 t)\/e=(1, .int 1 u):=by
  cases a<;>cases b<;>simp [eS] at h
  ·exact .inr h
  ·exact .inl h
  ·exact h
 rcases h with rfl|rfl<;>exact⟨_,rfl⟩
theorem ints_of:∀{l:ae (Int×am)} {vs:ae am},(∀e∈l,∃x,e.2=eA e.1 x)->vs.length=l.length->(∀(j:Nat) (v:am),vs[j]?=af v->∃e,l[j]?=af e/\v=e.2)->cw (l.map (·.1)) vs
 |[],vs,_,h,_=>cX.mp h
 |e::r,[],_,h,_=>by cases h
 |e::r,v::vs,hl,h,k=>by
  obtain⟨e',q,rfl⟩:=k 0 v rfl
  cases q
  obtain⟨x,hx⟩:=hl e aW
  exact⟨x,vs,by rw[hx],ints_of (λ e h=>hl e (aQ _ h)) (by simpa using h) λ j v h=>k (j+1) v (by simpa using h)⟩
theorem uL{S:au}{a b:aC}{t u:j_}{ep:Nat}{Q:am->ar->Prop}(hh:A.handled=none)(ho:s.heap.get? S=af (oS (kQ w) a b t u ep))
  (h:∀h' tk vs (o:au) (n:Nat),cw (I2 a b) vs->s.heap.get? o=none->h'.get? o=af {cls:= .type "list",dict:=none,data:= .seq vs.toArray n,slots:=#[]}->(∀b x,s.heap.get? b=af x->h'.get? b=af x)->Q (.ref o) {s with heap:=h',toks:=tk}):
  aH (aE prog w) A (call (.builtin "sorted") [.ref S]) Q E s:=by
 refine ng kind_sorted plain_sorted entry_sorted (args_sorted1 _) ?_
 unfold b7.«sorted»
 refine aj (m:=checkCount "sorted" 1 1 _) (aw ?_)
 have hz:M8 a b<=2:=by cases a<;>cases b<;>decide
 refine aj (kdu_collect (A:=A.in1) (QI (a:=a) (b:=b) (t:=t) (u:=u) (ep:=ep)) hh ho (by rw[dX]; omega) λ h' tk acc hk K5=>?_)
 have hl:acc.toList.length=(uT w S a b t u ep).toList.length:=by rw[bf,bf,vj]; exact K5.1
 have ZY:acc.toList.length<=2:=by rw[hl,bf,vj]; exact hz
 refine aj (wpAny_newList ?_ (by rw[dX]; omega))
 have hI:cw ((uT w S a b t u ep).toList.map (·.1)) acc.toList:=ints_of (λ e he=>Ts ((wJ S a b t u ep).mem_iff.mp he)) hl λ j v e=>by
  obtain⟨e',q,z⟩:=K5.2 j v (by rw[← bL]; exact e)
  exact⟨e',by rw[bL]; exact q,z⟩
 have hP:((uT w S a b t u ep).toList.map (·.1)).Perm (I2 a b):=by
  have:=(wJ (w:=w) S a b t u ep).map (·.1)
  rwa [Tq] at this
 have Jy:(h'.push (seqObj "list" acc.toList.toArray 0)).get? h'.objs.size=af (seqObj "list" acc.toList.toArray 0):=aN _ rfl
 have K_:s.heap.get? h'.objs.size=none:=by
  cases e:s.heap.get? h'.objs.size with
  |none=>rfl
  |some o=>exact bt (b8 (hk _ _ e)) (fj _)
 refine aj (bS (cA slot_list_sort ⟨_,Jy,rfl⟩ entry_list_sort (list_sort_tree Jy hI.ints (by omega) λ out A4 a1 a2 a3=>⟨_,rfl,?_⟩) (args_list_sort _)))
 obtain⟨n,hn⟩:=sortedHeap_at (vs:=acc.toList) (out:=out) Jy
 have e2:A4=I2 a b:=by
  rw[PySem.W.eq_sortI (a2.trans hP) a3]
  cases a<;>cases b<;>decide
 refine aw ⟨_,rfl,h _ tk out.toList h'.objs.size n (by rw[← e2]; exact cw.G5 a1) K_ (by rw[DJ]; exact hn) λ b x q=>?_⟩
 have hb:=b8 (hk _ _ q)
 rw[sortedHeap_old (dN hb) (by rw[size_push']; exact Nat.lt_succ_of_lt hb)]
 exact aA _ (hk _ _ q)
end
theorem cw.at:∀{ns:ae Int} {vs:ae am},cw ns vs->∀(i:Nat) (v:am),vs[i]?=af v->ns[i]?=af (ns.getD i 0)/\∃t,v= .int (ns.getD i 0) t
 |[],vs=>λ h=>h.u0 (Q:=λ vs=>∀(i:Nat) (v:am),vs[i]?=af v->([]:ae Int)[i]?=af (([]:ae Int).getD i 0)/\∃t,v= .int (([]:ae Int).getD i 0) t) λ aa aa e=>cu e
 |n::r,vs=>λ h=>h.uc (Q:=λ vs=>∀(i:Nat) (v:am),vs[i]?=af v->(n::r)[i]?=af ((n::r).getD i 0)/\∃t,v= .int ((n::r).getD i 0) t) λ t us h i v=>match i with
  |0=>λ q=>⟨rfl,t,(ak q).symm⟩
  |i+1=>cw.at h i v
section
variable{P:cC}{ct:Ct}
noncomputable def zo(ns:ae Int):aC:=ns.all λ v=>decide (v=0)||decide (v=1)
def lB(ns:ae Int):ae Int:=I2 (seen (λ i=>ns.getD i 0) 0 ns.length) (seen (λ i=>ns.getD i 0) 1 ns.length)
def onRow(a:AV)(K:ae Int->Prop):Prop:=match a with
 | .row ns=>K ns
 |_=>False
theorem onRow.u{a:AV}{K:ae Int->Prop}{Q:AV->Prop}(h:onRow a K)(k:∀ns,K ns->Q (.row ns)):Q a:=by
 rcases a with _|_|_|_|_|_|_|_|_|_|_|_|ns|_|_|_|_|_
 case row=>exact k ns h
 all_goals exact h.elim
def MS:vO:=λ a σ K=>onRow a λ ns=>cJ (zo ns) (K (.own σ.mem.length) ⟨σ.loc,σ.mem++[.il (lB ns)]⟩)
noncomputable def Ke:Bf P ct:={nm:="set",f:= .type "set",lQ:=λ aa aa aa=>False,jj:=false,hf:=λ aa e=>(nomatch e),snd:=λ aa aa aa aa aa aa aa aa aa aa aa aa h=>h.elim}
theorem I6{F:Fd}{G:BM}{ρ:ae au}{σ:St}{s:ar}{Kv:AV->St->Prop}{a:AV}{u:am}(O:gH P ct F)(R:RF F ct.aR G ρ σ s)(va:VR G ρ a u)(h:MS a σ Kv):
  aH (aE P.prog P.w) F.A (call (.type "set") [u] []) (λ v s'=>aH (aE P.prog P.w) F.A (call (.builtin "sorted") [v] []) (PE F ct.aR G ρ Kv) dq s') dq s:=
 onRow.u (Q:=λ a=>VR G ρ a u->aH (aE P.prog P.w) F.A (call (.type "set") [u] []) (λ v s'=>aH (aE P.prog P.w) F.A (call (.builtin "sorted") [v] []) (PE F ct.aR G ρ Kv) dq s') dq s) h (λ ns h va=>h.u λ hz h=>
  va.C8 (Q:=λ u=>aH (aE P.prog P.w) F.A (call (.type "set") [u] []) (λ v s'=>aH (aE P.prog P.w) F.A (call (.builtin "sorted") [v] []) (PE F ct.aR G ρ Kv) dq s') dq s) λ l o us ho hl hi=>
   Eg (items:=us) (val:=λ i=>ns.getD i 0) O.room.2.2 ⟨o,R.rm.kg _ _ ho,hl.is⟩ (λ i v e=>have q:=hi.at i v (bL.trans e); ⟨(g6.mp (bj.mp hz _ (dy q.1))).imp a4 a4,q.2⟩) λ h' tk hS keep=>
    hS.elim λ t z=>z.elim λ u z=>z.elim λ ep z=>uL (s:={s with heap:=h',toks:=tk}) O.room.2.2 z λ h2 tk2 vs2 o2 n2 hi2 ho1 T1 XI=>
     PE.E1 (ao:= .il (lB ns)) (s':={s with heap:=h2,toks:=tk2}) R (none_of λ o e=>de ho1 (keep _ _ e)) T1 ⟨vs2.toArray,⟨_,rfl⟩,(ah (λ k=>cw (I2 (seen (λ i=>ns.getD i 0) 0 k) (seen (λ i=>ns.getD i 0) 1 k)) vs2) (bf.symm.trans hi.length)).mp hi2⟩ (λ b o e=>XI _ _ (keep _ _ e)) ⟨rfl,rfl,rfl⟩ h) va
def Ny(q1 q2:c7)(as:SL P ct)(p2 p1:c7):SE P ct where
 bA:= .Call (.Name "sorted" q1) [.Call (.Name "set" q2) as.bA [] p2] [] p1
 run:=λ σ K=>as.run σ λ vs aI=>one MS vs aI K
 b_:=Oz P ct "sorted" (.builtin "sorted")&&(Oz P ct "set" (.type "set")&&as.b_)
 star:=λ aa aa=>rfl
 ok:=λ c F G ρ σ s Kv O R h=>have c1:=aG c; have c2:=aG c1.2
  X.pT (X.any (z_ O R c1.1 (X.t_ (Pm:=λ aa=>True) ((iR (xB Ke q2 as p2) qU).plain _ _) (oO λ aa e=>nomatch e) (X.k9 (by exact(xB Ke q2 as p2).star _ _) (X.pT (X.any (z_ O R c2.1
   (X.t_ (Pm:=λ aa=>True) (as.plain _ _) (oO λ aa e=>nomatch e) (X.mono (as.ok c2.2 F G ρ σ s _ _ O R h) λ vs s₁ z=>z.u λ dU c6 dr aI fG fb dQ va bH=>⟨trivial,va.a1 (Q:=λ vs=>WP P F.A (call (.type "set") vs []) _ s₁) bH λ a u bH vu=>
    X.any (cZ (I6 O dQ vu bH) (λ v s' z=>X.any (Bh ⟨trivial,X.any (cZ z (λ aa aa=>PE.up fG fb) λ aa aa z=>z)⟩)) λ aa aa z=>z)⟩)))))))))
end
noncomputable abbrev T(α:Type):=Nat->α×Nat
noncomputable def T.p{α:Type}(a:α):T α:=λ s=>(a,s)
noncomputable def T.b{α β:Type}(x:T α)(f:α->T β):T β:=λ s=>Prod.casesOn (motive:=λ aa=>β×Nat) (x s) f
noncomputable def rd{β:Type}(f:Nat->T β):T β:=λ s=>f (s % 128) (s / 128)
noncomputable def p0:c7:=⟨0,0,0,0⟩
abbrev CE(ct:Ct):=(P:cC)->SE P ct
abbrev CT(ct:Ct):=(P:cC)->ST P ct
abbrev CL'(ct:Ct):=(P:cC)->SL P ct
abbrev CG(ct:Ct):=(P:cC)->TG P ct
abbrev CX(ct:Ct):=(P:cC)->SX P ct
abbrev CS(ct:Ct):=(P:cC)->SS P ct
structure Tr(ct:Ct) where
 e:aB->T (CE ct)
 t:aB->T (CT ct)
 s:ae fW->T (CS ct)
def R8:aB:= .Constant .none 0 p0
def vE:aB->Nat×bM×Nat×ae aB
 | .Name x _=>(1,x,0,[])
 | .Attribute o _ _=>(2,"",0,[o])
 | .Subscript a i _=>(3,"",0,[a,i])
 | .Tuple es k _=>(4,"",k,es)
 | .Call f as _ _=>(5,"",0,f::as)
 | .Lambda _ b _ _=>(6,"",0,[b])
 | .Slice l u _ _=>(7,"",0,[l.getD R8,u.getD R8])
 |_=>(0,"",0,[])
def kd(e:aB):Nat:=(vE e).1
def yv(e:aB):ae aB:=(vE e).2.2.2
def at_(l:ae aB)(i:Nat):aB:=l.getD i R8
noncomputable def cks(n:Nat):CK:=[CK.si, .NK, .Xy, .X9, .Z7].getD (n - 1) .si
noncomputable def trC(ct:Ct)(k:Nat)(p:c7):Const->CE ct
 | .int i=>λ aa=>x_ i p
 | .bool b=>λ aa=>Zs b k p
 | .str x=>λ aa=>acW x k p
 | .bytes x=>λ aa=>acQ x k p
 |_=>λ aa=>zg k p
def trG(ct:Ct)(ns:ae aB->T (ae hH))(e:aB):T (CG ct):=aY (a_ (kd e) 4) ((ns (yv e)).b λ ns=> .p λ aa=>Nb ns (vE e).2.2.1 e.pos) (rd λ n=> .p λ aa=>xb n e.pos)
def Zc(es:ae aB):T (ae hH):=o8 (motive:=λ aa=>T (ae hH)) (.p []) (λ e aa r=>rd λ n=>r.b λ r=> .p ((n,(vE e).2.1,e.pos)::r)) es
def trS(ns:ae (bM×dJ)):T (ae (aq Nat)):=o8 (motive:=λ aa=>T (ae (aq Nat))) (.p []) (λ e aa r=>match e.2 with
 | .local=>r.b λ r=> .p (none::r)
 | .free=>rd λ n=>r.b λ r=> .p (af n::r)
 |_=>r) ns
noncomputable def Za(ns:ae (bM×dJ)):ae bM:=ns.filterMap λ e=>match e.2 with
 | .local=>af e.1
 | .free=>af e.1
 |_=>none
section
variable(k:(ct:Ct)->Tr ct)(ct:Ct)
def Vk(es:ae aB):T (CL' ct):=o8 (motive:=λ aa=>T (CL' ct)) (.p λ aa=>qU) (λ e aa r=>((k ct).e e).b λ a=>r.b λ r=> .p λ P=>iR (a P) (r P)) es
def trB{β:Type}(elt:aB)(gs:ae i5)(sc:qF)(f:(B:xq)->CE ct->((P:cC)->CL P (B.ct ct))->β):T β:=(trS sc.names).b λ src=>
 let B:xq:=⟨sc,Za sc.names,src⟩
 match gs with
 |[]=>((k ct).e elt).b λ i=> .p (f B i λ aa=>ZM (xb 0 p0) (zg 0 p0))
 |g::gs=>((k ct).e g.iter).b λ i=>(trG (B.ct ct) Zc g.target).b λ t=>((k (B.ct ct)).e elt).b λ x=>match g.ifs with
  |c::_=>((k (B.ct ct)).t c).b λ c=> .p (f B i λ P=>Ta (t P) (x P) (c P))
  |[]=>match gs with
   |h::_=>(trG (B.ct ct) Zc h.target).b λ t'=>((k (B.ct ct)).e h.iter).b λ i'=> .p (f B i λ P=>cl2 (t P) (x P) (t' P) (i' P))
   |[]=> .p (f B i λ P=>ZM (t P) (x P))
noncomputable def clA:ae au:=[245,343,469,567,610,713,779,812,847,385,511]
def recv(e:aB):aB:=aY (a_ (kd e) 2) (at_ (yv e) 0) e
def WD(P:cC)(ct:Ct):ae (c7->SL P ct->c7->SE P ct):=[Zw,Zv,Nv,xBa,acP,HL,Q7,Q8,Zx,Zy,Sz,VA,Nx,Vy,Vx]
def call2(P:cC)(ct:Ct):ae (SE P ct->c7->SL P ct->c7->SE P ct):=[λ o aa l p=>Dx o l p,λ o aa l p=>Vu o l p,λ o q l p=>Vt o q l p false,λ o q l p=>Vt o q l p true,acV,Vv,Zu]
def trF(f:aB)(as:ae aB)(p:c7)(n:Nat):T (CE ct):=aY (fK n 15) ((Vk k ct as).b λ l=> .p λ P=>((WD P ct).getD n Zw) f.pos (l P) p)
 (((k ct).e (recv f)).b λ o=>(Vk k ct as).b λ l=> .p λ P=>aY (fK n 30) (((call2 P ct).getD (n - 15) Zu) (o P) f.pos (l P) p) (aY (fK n 60) (acU (clA.getD (n - 30) 0) (o P) (l P) p) (Dy (o P) (n - 60) f.pos (l P) p)))
def trD(f:aB)(p:c7)(g:aB):T (CE ct):=(Vk k ct (yv g).tail).b λ l=> .p λ P=>Ny f.pos (at_ (yv g) 0).pos (l P) g.pos p
def trU(a i:aB)(p:c7):T (CE ct):=aY (a_ (kd i) 7) (((k ct).e a).b λ a=>((k ct).e (at_ (yv i) 0)).b λ l=>((k ct).e (at_ (yv i) 1)).b λ u=> .p λ P=>VB (a P) (l P) (u P) i.pos p)
 (rd λ n=>((k ct).e a).b λ a=>((k ct).e i).b λ i=> .p λ P=>aY (a_ n 0) (Fz (a P) (i P) p) (aY (a_ n 1) (ZA (a P) (i P) p) (Zz (a P) (i P) p)))
def trE:aB->T (CE ct)
 | .Constant v k p=> .p (trC ct k p v)
 | .Name x p=>rd λ n=> .p λ P=>aY (fK n 20) (eW n p) (Vz x (TT.gl.getD (n - 20) ("", .none)).2 p)
 | .BinOp a op b p=>((k ct).e a).b λ a=>((k ct).e b).b λ b=> .p λ P=>Nu (a P) op (b P) p
 | .UnaryOp _ a p=>((k ct).e a).b λ a=> .p λ P=>acT (a P) p
 | .IfExp t a b p=>((k ct).t t).b λ t=>((k ct).e a).b λ a=>((k ct).e b).b λ b=> .p λ P=>xIf (t P) (a P) (b P) p
 | .Compare a op b p=>rd λ n=>((k ct).e a).b λ a=>((k ct).e (at_ b 0)).b λ b=> .p λ P=>aY (a_ n 0) (acR (a P) (op.headD .Eq) (b P) p) (Zt (a P) (cks n) (b P) p)
 | .Attribute a _ p=>rd λ n=>((k ct).e a).b λ a=> .p λ P=>Dw (a P) n p
 | .Subscript a i p=>trU k ct a i p
 | .Tuple es n p=>(Vk k ct es).b λ l=> .p λ P=>VC (l P) n p
 | .List es p=>(Vk k ct es).b λ l=> .p λ P=>acS (l P) p
 | .Dict _ _ p=>rd λ n=> .p λ P=>Vw (a_ n 1) p
 | .ListComp a gs sc p=>trB k ct a gs sc λ B i c P=>Nw B (i P) (c P) p
 | .Call f as _ p=>rd λ n=>aY (a_ n 59) (trD k ct f p (at_ as 0)) (trF k ct f as p n)
 |_=> .p λ aa=>zg 0 p0
def trT:aB->T (CT ct)
 | .Compare a op b p=>rd λ n=>((k ct).e a).b λ a=>((k ct).e (at_ b 0)).b λ b=> .p λ P=>aY (a_ n 0) (QO (a P) (op.headD .Eq) (b P) p) (aY (a_ n 6) (Y6 (a P) (b P) p) (Sp (a P) (cks n) (b P) p))
 | .BoolOp op vs p=>((k ct).t (at_ vs 0)).b λ a=>((k ct).t (at_ vs 1)).b λ b=> .p λ P=>match op with
  | .Or=>tOr (a P) (b P) p
  | .And=>acs (a P) (b P) p
 | .UnaryOp _ a p=>((k ct).t a).b λ a=> .p λ P=>acx (a P) p
 |e=>((k ct).e e).b λ a=> .p λ P=>Y_ (a P)
def trA(v:aB)(p:c7)(e:aB):T (CX ct):=match kd e with
 |1=>rd λ n=>match v with
  | .ListComp a gs sc r=>aY (fK n 20) (((k ct).e v).b λ v=> .p λ P=>MJ n e.pos (v P) p) (trB k ct a gs sc λ B i c P=>ML (n - 20) (vE e).2.1 e.pos B (i P) (c P) r p)
  |_=>((k ct).e v).b λ v=> .p λ P=>MJ n e.pos (v P) p
 |2=>rd λ n=>((k ct).e (at_ (yv e) 0)).b λ o=>((k ct).e v).b λ v=> .p λ P=>MK (o P) n e.pos (v P) p
 |3=>((k ct).e (at_ (yv e) 0)).b λ o=>((k ct).e (at_ (yv e) 1)).b λ i=>((k ct).e v).b λ v=> .p λ P=>Sk (o P) (i P) e.pos (v P) p
 |_=>rd λ m=>(Zc (yv e)).b λ ns=>aY (a_ m 1) ((Vk k ct (yv v)).b λ l=> .p λ P=>ack ns (vE e).2.2.1 e.pos (l P) (vE v).2.2.1 v.pos p) (((k ct).e v).b λ v=> .p λ P=>acl ns (vE e).2.2.1 e.pos (v P) p)
def trO(op:cF)(v:aB)(p:c7)(e:aB):T (CX ct):=match kd e with
 |1=>rd λ n=>((k ct).e v).b λ v=> .p λ P=>acj n e.pos op (v P) p
 |2=>rd λ n=>((k ct).e (at_ (yv e) 0)).b λ o=>((k ct).e v).b λ v=> .p λ P=>MI (o P) n e.pos op (v P) p
 |_=>((k ct).e (at_ (yv e) 0)).b λ o=>((k ct).e (at_ (yv e) 1)).b λ i=>((k ct).e v).b λ v=> .p λ P=>Sj (o P) (i P) e.pos op (v P) p
noncomputable def Gr:ae (ae aC):=[[false,false,false,false,false,false,true,false],[false,false,false,false,false,false,false,false],[false,false,false,false,false,false,false,true,false],[false,false,false,false,false,true,false,true,false]]
def trX(s:fW):T (CX ct):=match s with
 | .Pass p=> .p λ aa=>YP p
 | .Return none p=> .p λ aa=>YQ p
 | .Return (af e) p=>rd λ n=>aY (a_ n 0) (((k ct).e e).b λ e=> .p λ P=>Ff (e P) p) (((k Gi).e (at_ (yv (at_ (yv e) 4)) 0)).b λ e=> .p λ P=>Qu (e P))
 | .Expr e p=>rd λ n=>aY (a_ n 0) (((k ct).e e).b λ e=> .p λ P=>Dc (e P) p) (.p λ aa=>sNo s)
 | .If t a b p=>((k ct).t t).b λ t=>((k ct).s a).b λ a=>((k ct).s b).b λ b=> .p λ P=>sIf (t P) (a P) (b P) p
 | .While t a _ p=>((k ct).t t).b λ t=>((k ct).s a).b λ a=> .p λ P=>MM (t P) (a P) p
 | .For t i a _ p=>rd λ n=>(trG ct Zc t).b λ t=>aY (a_ n 1) (((k ct).e (at_ (yv i) 0)).b λ f=>(Vk k ct (yv i).tail).b λ l=>((k ct).s a).b λ a=> .p λ P=>YO (t P) (f P) (l P) i.pos (a P) p)
  (((k ct).e i).b λ i=>((k ct).s a).b λ a=> .p λ P=>YN (t P) (i P) (aY (a_ n 0) (a P) (M2 (Gr.getD (n - 2) []) (a P))) p)
 | .Assign ts v p=>trA k ct v p (at_ ts 0)
 | .AugAssign t op v p=>trO k ct op v p t
 |_=> .p λ aa=>sNo s
def trV(b:ae fW):T (CS ct):=o8 (motive:=λ aa=>T (CS ct)) (.p λ aa=>lC) (λ s aa r=>(trX k ct s).b λ x=>r.b λ r=> .p λ P=>iH (x P) (r P)) b
end
def tr(n:Nat):(ct:Ct)->Tr ct:=DM (motive:=λ aa=>(ct:Ct)->Tr ct) (λ aa=>⟨λ aa=> .p λ aa=>zg 0 p0,λ aa=> .p λ aa=>Y_ (zg 0 p0),λ aa=> .p λ aa=>lC⟩) (λ aa k ct=>⟨trE k ct,trT k ct,trV k ct⟩) n
def vS:fW->ae fW×aB×ae Arg×ae (bM×dJ)
 | .For t _ b _ _=>(b,t,[],[])
 | .While t b _ _=>(b,t,[],[])
 | .If _ b _ _=>(b,R8,[],[])
 | .Return e _=>([],e.getD R8,[],[])
 | .ClassDef _ _ _ b _ _ _ _ _ _ _=>(b,R8,[],[])
 | .FunctionDef _ a b _ _ _ sc _ _ _=>(b,R8,a.args,sc.names)
 |_=>([],R8,[],[])
def g8(s:fW):ae fW:=(vS s).1
def Gx(s:fW):aB:=(vS s).2.1
def nP(b:ae fW)(i:Nat):fW:=b.getD i (.Pass p0)
def yG(i j:Nat):fW:=aY (a_ j 0) (nP gQ.main.body i) (nP (g8 (nP gQ.main.body i)) (j - 1))
def AZ(tb cq:aC)(s:fW):Ct:=⟨(vS s).2.2.2,(vS s).2.2.2.filterMap λ e=>match e.2 with
 | .local=>af e.1
 | .cell=>af e.1
 |_=>none,false,tb,cq⟩
def FB(s:fW):ae bM:=(vS s).2.2.1.map (·.arg)
def bo(ct:Ct)(b:ae fW)(s:Nat):CS ct:=((tr 20 ct).s b s).1
def u5(n:Nat)(ct:Ct)(b:ae fW)(s:Nat):CS ct:=((tr n ct).s b s).1
def mK(ct:Ct)(e:aB)(s:Nat):CG ct:=(trG ct Zc e s).1
def tst(n:Nat)(ct:Ct)(e:aB)(s:Nat):CT ct:=((tr n ct).t e s).1
def kI:fW:=yG 8 0
noncomputable def oW:Nat:=0x4001c284080038008003031e1c2810c007060414104
def d4:Ct:=AZ false false kI
def sq:CS d4:=bo d4 (g8 kI) oW
def lM:CG d4:=mK d4 (Gx (nP (g8 kI) 1)) (oW / 128 ^ 2)
def ii:CS d4:=λ P=>M2 (Gr.getD 0 []) ((u5 19 d4 (g8 (nP (g8 kI) 1)) (oW / 128 ^ 4)) P)
def dZ:fW:=yG 10 0
noncomputable def f0:Nat:=0x2000618284303c0050818101343c1191e140000c00b8f0a0c084
def cm:Ct:=AZ false false dZ
def kX:CS cm:=bo cm (g8 dZ) f0
def e_:CG cm:=mK cm (Gx (nP (g8 dZ) 1)) (f0 / 128 ^ 3)
def gK:CS cm:=λ P=>M2 (Gr.getD 1 []) ((u5 19 cm (g8 (nP (g8 dZ) 1)) (f0 / 128 ^ 7)) P)
def qc:fW:=yG 19 0
noncomputable def CI:Nat:=0x800000d800004000
def l8:Ct:=AZ false false qc
def pS:CS l8:=bo l8 (g8 qc) CI
def qb:fW:=yG 20 0
noncomputable def CH:Nat:=0x1000200001000400100041000004000006c002
def l7:Ct:=AZ false false qb
def pR:CS l7:=bo l7 (g8 qb) CH
def jN:fW:=yG 46 1
noncomputable def r5:Nat:=0x18020007801cac00d
def gT:Ct:=AZ false false jN
def jG:CS gT:=bo gT (g8 jN) r5
def lP:fW:=yG 46 2
noncomputable def uS:Nat:=0x18000202b478008006801a00704003400202b078008006801a00704003402b00340020204003001000d04040003600004
def gY:Ct:=AZ false false lP
def lJ:CS gY:=bo gY (g8 lP) uS
def gD:fW:=yG 46 3
noncomputable def ky:Nat:=0xf01840001e0000f003800d5600680
def cj:Ct:=AZ false false gD
def kh:CS cj:=bo cj (g8 gD) ky
def iT:CT cj:=tst 19 cj (Gx (nP (g8 gD) 0)) (ky / 128 ^ 0)
def iS:CS cj:=u5 19 cj (g8 (nP (g8 gD) 0)) (ky / 128 ^ 4)
def eV:fW:=yG 46 4
noncomputable def iD:Nat:=0x40102400100200810020080100200010000808100b800e5c00701
def cH:Ct:=AZ false false eV
def iC:CS cH:=bo cH (g8 eV) iD
def e9:CT cH:=tst 18 cH (Gx (nP (g8 (nP (g8 eV) 2)) 2)) (iD / 128 ^ 14)
def e8:CS cH:=u5 18 cH (g8 (nP (g8 (nP (g8 eV) 2)) 2)) (iD / 128 ^ 19)
def iF:fW:=yG 46 5
noncomputable def pA:Nat:=0x20072b020070100ad5801a00701
def fP:Ct:=AZ false false iF
def iB:CS fP:=bo fP (g8 iF) pA
def fX:fW:=yG 46 6
noncomputable def jJ:Nat:=0x100400010260001004000100a03080003806100007801c03100
def cn:Ct:=AZ false false fX
def jH:CS cn:=bo cn (g8 fX) jJ
def fZ:CT cn:=tst 19 cn (Gx (nP (g8 fX) 5)) (jJ / 128 ^ 15)
def fY:CS cn:=u5 19 cn (g8 (nP (g8 fX) 5)) (jJ / 128 ^ 22)
def iV:fW:=yG 62 0
noncomputable def mE:Nat:=0x100051424401ca1c202220030a12203800a108800614003000803d0c04284
def dP:Ct:=AZ false false iV
def kj:CS dP:=bo dP (g8 iV) mE
def m6:CG dP:=mK dP (Gx (nP (g8 iV) 2)) (mE / 128 ^ 3)
def kx:CS dP:=u5 19 dP (g8 (nP (g8 iV) 2)) (mE / 128 ^ 7)
def gU:fW:=yG 63 0
noncomputable def lW:Nat:=0x103923c0c81e040090a0c1010130784
def gC:Ct:=AZ true true gU
def lV:CS gC:=bo gC (g8 gU) lW
def dY:fW:=yG 64 0
noncomputable def fH:Nat:=0x4001c3000e10207081838006140807e403020a00084
def bT:Ct:=AZ true false dY
def lU:CS bT:=bo bT (g8 dY) fH
def oU:CG bT:=mK bT (Gx (nP (g8 (nP (g8 dY) 1)) 1)) (fH / 128 ^ 13)
def oQ:CS bT:=u5 18 bT (g8 (nP (g8 (nP (g8 dY) 1)) 1)) (fH / 128 ^ 15)
def oV:CG bT:=mK bT (Gx (nP (g8 dY) 1)) (fH / 128 ^ 3)
def oR:CS bT:=u5 19 bT (g8 (nP (g8 dY) 1)) (fH / 128 ^ 5)
def mI:fW:=yG 74 0
noncomputable def r6:Nat:=0x808008081040804084000c18300100030008080
def hJ:Ct:=AZ false false mI
def vW:CS hJ:=bo hJ (g8 mI) r6
def rb:CG hJ:=mK hJ (Gx (nP (g8 mI) 1)) (r6 / 128 ^ 4)
def q_:CS hJ:=u5 19 hJ (g8 (nP (g8 mI) 1)) (r6 / 128 ^ 6)
def i2:fW:=yG 81 0
noncomputable def kG:Nat:=0x2000c0800408085100020304041010a284060e0248f03207852200304061c10e0f1cc8f343c1800c102803e0100300ec2050084001020c101
def cM:Ct:=AZ false false i2
def hZ:CS cM:=bo cM (g8 i2) kG
def jw:CG cM:=mK cM (Gx (nP (g8 (nP (g8 i2) 1)) 1)) (kG / 128 ^ 19)
def jv:CS cM:=λ P=>M2 (Gr.getD 2 []) ((u5 18 cM (g8 (nP (g8 (nP (g8 i2) 1)) 1)) (kG / 128 ^ 27)) P)
def pi:CG cM:=mK cM (Gx (nP (g8 i2) 1)) (kG / 128 ^ 9)
def lL:CS cM:=λ P=>M2 (Gr.getD 3 []) ((u5 19 cM (g8 (nP (g8 i2) 1)) (kG / 128 ^ 17)) P)
def lZ:fW:=yG 82 0
noncomputable def mF:Nat:=0x1060008002000800594101021020302000070c14182944030b14005870e2c20a1600488963c500121840305307820c104029a3c4851000081843c38602081ce1e040c21e1408232080cf1e1018003407820144781
def dK:Ct:=AZ true false lZ
def vU:CS dK:=bo dK (g8 lZ) mF
def L3:CG dK:=mK dK (Gx (nP (g8 (nP (g8 lZ) 5)) 3)) (mF / 128 ^ 59)
def LM:CS dK:=u5 18 dK (g8 (nP (g8 (nP (g8 lZ) 5)) 3)) (mF / 128 ^ 61)
def Cz:CG dK:=mK dK (Gx (nP (g8 lZ) 5)) (mF / 128 ^ 35)
def Cr:CS dK:=u5 19 dK (g8 (nP (g8 lZ) 5)) (mF / 128 ^ 37)
def Bz:CE Gi:=((tr 19 Gi).e (at_ (yv (at_ (yv (Gx (nP (g8 gU) 2))) 4)) 0) (lW / 128 ^ 11)).1
def abS:CS dK:=u5 19 dK (jg 3 (g8 (nP (g8 lZ) 5))) (mF / 128 ^ 58)
def abR:CS dK:=u5 19 dK (jg 2 (g8 (nP (g8 lZ) 5))) (mF / 128 ^ 53)
def abQ:CS dK:=u5 19 dK (jg 1 (g8 (nP (g8 lZ) 5))) (mF / 128 ^ 44)
def XT:CS dK:=u5 20 dK (jg 7 (g8 lZ)) (mF / 128 ^ 78)
def XS:CS dK:=u5 20 dK (jg 6 (g8 lZ)) (mF / 128 ^ 69)
def XR:CS dK:=u5 20 dK (jg 5 (g8 lZ)) (mF / 128 ^ 34)
def R0:CS dK:=u5 20 dK (jg 4 (g8 lZ)) (mF / 128 ^ 27)
def RZ:CS dK:=u5 20 dK (jg 3 (g8 lZ)) (mF / 128 ^ 15)
def XQ:CS dK:=u5 20 dK (jg 2 (g8 lZ)) (mF / 128 ^ 8)
def XO:CS dK:=u5 20 dK (jg 1 (g8 lZ)) (mF / 128 ^ 4)
noncomputable def bk(ns:ae (bM×dJ))(src:ae (aq Nat)):xq:=⟨⟨.function,ns,false,false,[]⟩,Za ns,src⟩
noncomputable def pM:xq:=bk [(".0", .local),("size", .local),("value", .local),("least", .free)] [none,none,none,af 8]
noncomputable def pN:xq:=bk [(".0", .local),("size", .local),("value", .local)] [none,none,none]
noncomputable def FM:xq:=bk [(".0", .local),("name", .local),("grid", .free),("rows", .free)] [none,none,af 3,af 4]
noncomputable def NN:xq:=bk [(".0", .local),("turn", .local),("_law_scan", .globalImplicit),("frame", .free),("source", .free)] [none,none,af 2,af 1]
noncomputable def MO:(a b:TV)->aq {u:e7 // a=b}
 | .ex x, .ex y=>ob (Wo x y) λ h=>af ⟨(),ah TV.ex h.2⟩
 | .rg a b, .rg c d=>dE (nO a c) λ h=>dE (nO b d) λ k=>af ⟨(),h▸k▸rfl⟩
 | .ai, .ai=>af ⟨(),rfl⟩
 | .tb, .tb=>af ⟨(),rfl⟩
 | .tp a b, .tp c d=>ob (MO a c) λ h=>ob (MO b d) λ k=>af ⟨(),h.2▸k.2▸rfl⟩
 | .Ju m, .Ju n=>dE (jl m n) λ h=>af ⟨(),h▸rfl⟩
 | .nr a b c, .nr d e f=>dE (nO a d) λ h=>dE (nO b e) λ k=>dE (nO c f) λ l=>af ⟨(),h▸k▸l▸rfl⟩
 |_,_=>none
abbrev Js(a b:TV):Prop:=∀v,GV a v->GV b v
theorem Js.refl{a:TV}:Js a a:=λ aa g=>g
theorem Js.eq{a b:TV}(h:a=b):Js b a:=h▸Js.refl
theorem HJ{t:TV}{p:Int×Int}{l u:Int}(e:l6 t=af p)(h0:l<=p.1)(h1:p.2<=u):Js t (.rg l u):=λ v g=>l6.u e g (Q:=GV (.rg l u)) λ i a b=>⟨i,rfl,aO h0 a,aO b h1⟩
abbrev Jn(a b:TV):=aq {j:TV // Js a j/\Js b j}
def RY(a b:TV):Jn a b:=ob (MO a b) λ h=>af ⟨a,Js.refl,Js.eq h.2⟩
def jV(a b:TV):Jn a b:=
 oe (RY a b)
 (oe (jK (l6 a) λ p hp=>jK (l6 b) λ q hq=>af ⟨.rg (min p.1 q.1) (max p.2 q.2),HJ hp (qk _ _) (qj _ _),HJ hq (pr _ _) (pq _ _)⟩)
 (ob (tI a) λ x=>ob (tI b) λ y=>af ⟨.ai,x.2,y.2⟩))
abbrev uJ(a b:ae TV):Prop:=∀v,dD a v->dD b v
theorem uJ.cons{a b:TV}{r t:ae TV}(h:Js a b)(k:uJ r t):uJ (a::r) (b::t):=λ v=> .imp λ u=> .imp λ x=> .imp_right<| .imp (h u) (k x)
noncomputable def XH:(a b:ae TV)->aq {j:ae TV // uJ a j/\uJ b j}
 |[],[]=>af ⟨[],λ aa g=>g,λ aa g=>g⟩
 |a::r,b::t=>ob (jV a b) λ x=>ob (XH r t) λ y=>af ⟨x.1::y.1,uJ.cons x.2.1 y.2.1,uJ.cons x.2.2 y.2.2⟩
 |_,_=>none
abbrev Rd(a b:ae (Int×Int)):Prop:=∀v,qZ a v->qZ b v
theorem Rd.cons{a:Int×Int}{l u:Int}{r t:ae (Int×Int)}(h0:l<=a.1)(h1:a.2<=u)(k:Rd r t):Rd (a::r) ((l,u)::t):=λ v=> .imp λ aa=> .imp λ x=> .imp_right<| .imp (aO h0)<| .imp (aO · h1) (k x)
noncomputable def jQ:(a b:ae (Int×Int))->aq {j:ae (Int×Int) // Rd a j/\Rd b j}
 |[],[]=>af ⟨[],λ aa g=>g,λ aa g=>g⟩
 |a::r,b::t=>ob (jQ r t) λ y=>af ⟨(min a.1 b.1,max a.2 b.2)::y.1,Rd.cons (qk _ _) (qj _ _) y.2.1,Rd.cons (pr _ _) (pq _ _) y.2.2⟩
 |_,_=>none
noncomputable def LV:ae (Int×Int)->Int
 |[]=>0
 |q::r=>min q.1 (LV r)
noncomputable def Nd:ae (Int×Int)->Int
 |[]=>0
 |q::r=>max q.2 (Nd r)
theorem qZ.all:∀{q:ae (Int×Int)} {r:ae Int},qZ q r->∀x∈r,LV q<=x/\x<=Nd q
 |[],_=>λ h=>h.u0 (Q:=λ r=>∀x∈r,LV []<=x/\x<=Nd []) λ aa h=>bt h bN
 |p::q,_=>λ h=>h.uc (Q:=λ r=>∀x∈r,LV (p::q)<=x/\x<=Nd (p::q)) λ u r h0 h1 h=>aJ.mpr ⟨⟨aO (qk _ _) h0,aO h1 (qj _ _)⟩,λ x hx=>(qZ.all h x hx).imp (aO (pr _ _)) (aO · (pq _ _))⟩
structure k6(a b:TO):Prop where
 go:∀m o,GO m a o->GO m b o
 q:l9 b=l9 a
 ba:wy a=true->b= .ba
theorem GA{a:TO}(h:wy a=true):a= .ba:=by
 rcases a with _|_|_|_|_|_|_|_|_|_
 case ba=>rfl
 all_goals exact ay h
theorem k6.refl(a:TO):k6 a a:=⟨λ aa aa g=>g,rfl,GA⟩
theorem k6.eq{a b:TO}(h:a=b):k6 b a:=h▸k6.refl a
theorem Q2{f:ae AV->AO}{a b:ae TV}{o:AO}(k:uJ a b):(∃us,o=f us/\dD a us)->∃us,o=f us/\dD b us:= .imp λ aa=> .imp_right (k _)
section
variable{a b:ae TV}
theorem k6.ns{ks xt:ae Nat}(h:ks=xt)(k:uJ a b):k6 (.ns xt a) (.ns ks b):=h▸⟨λ aa aa=>Q2 (f:=AO.ns ks) k,rfl,λ h=>ay h⟩
theorem k6.iM{ks xt:ae Int}(h:ks=xt)(k:uJ a b):k6 (.iM xt a) (.iM ks b):=h▸⟨λ aa aa=>Q2 (f:=AO.iM ks) k,rfl,λ h=>ay h⟩
theorem k6.bG{ks xt:ae (ae Int)}(h:ks=xt)(k:uJ a b):k6 (.bG xt a) (.bG ks b):=h▸⟨λ aa aa=>Q2 (f:=AO.bG ks) k,rfl,λ h=>ay h⟩
theorem k6.lst(k:uJ a b):k6 (.lst a) (.lst b):=⟨λ aa aa=>Q2 (f:=AO.lst) k,rfl,λ h=>ay h⟩
theorem k6.il{a b:ae (Int×Int)}(k:Rd a b):k6 (.il a) (.il b):=⟨λ aa aa=> .imp λ aa=> .imp_right (k _),rfl,λ h=>ay h⟩
theorem k6.enc{q q' L L':Nat}(h:q=q')(l:L<=L'):k6 (.enc q' L) (.enc q L'):=h▸⟨λ aa aa=> .imp λ aa=> .imp λ aa=> .imp λ aa=> .imp λ aa=> .imp_right<| .imp_right<| .imp_right (aF · l),rfl,λ h=>ay h⟩
theorem k6.zX{o:TO}{n n':Nat}{l u l' u':Int}(h:k6 o (.zX n l u))(e:n'=n)(h0:l'<=l)(h1:u<=u'):k6 o (.zX n' l' u'):=
 ⟨λ m x g=>(h.go m x g).imp λ aa=> .imp_right<| .imp (·.trans e.symm) λ a y hy=>(a y hy).imp (aO h0) (aO · h1),h.q,λ q=>TO.noConfusion (h.ba q)⟩
end
noncomputable def Uw(o:TO):aq {c:Nat×Int×Int // k6 o (.zX c.1 c.2.1 c.2.2)}:=match o with
 | .zX n l u=>af ⟨(n,l,u),k6.refl _⟩
 | .il q=>af ⟨(q.length,LV q,Nd q),λ aa aa=> .imp λ aa=> .imp_right λ h=>⟨h.len,h.all⟩,rfl,λ h=>ay h⟩
 |_=>none
def jO:(a b:TO)->aq {j:TO // k6 a j/\k6 b j}
 | .ns ks a, .ns xt b=>dE (nO ks xt) λ h=>ob (XH a b) λ x=>af ⟨.ns ks x.1,k6.ns rfl x.2.1,k6.ns h x.2.2⟩
 | .inst C j, .inst C' j'=>dE (jl C C') λ h=>dE (jl j j') λ k=>af ⟨.inst C j,k6.refl _,k6.eq (h▸k▸rfl)⟩
 | .lst a, .lst b=>ob (XH a b) λ x=>af ⟨.lst x.1,k6.lst x.2.1,k6.lst x.2.2⟩
 | .il p, .il q=>ob (jQ p q) λ x=>af ⟨.il x.1,k6.il x.2.1,k6.il x.2.2⟩
 | .iM ks a, .iM xt b=>dE (nO ks xt) λ h=>ob (XH a b) λ x=>af ⟨.iM ks x.1,k6.iM rfl x.2.1,k6.iM h x.2.2⟩
 | .bG ks a, .bG xt b=>dE (nO ks xt) λ h=>ob (XH a b) λ x=>af ⟨.bG ks x.1,k6.bG rfl x.2.1,k6.bG h x.2.2⟩
 | .enc q L, .enc q' L'=>dE (jl q q') λ h=>af ⟨.enc q (max L L'),k6.enc rfl (Nat.le_max_left _ _),k6.enc h (Nat.le_max_right _ _)⟩
 | .ba, .ba=>af ⟨.ba,k6.refl _,k6.refl _⟩
 | .ix a, .ix b=>dE (nO a b) λ h=>af ⟨.ix a,k6.refl _,k6.eq (h▸rfl)⟩
 |a,b=>ob (Uw a) λ x=>ob (Uw b) λ y=>dE (jl x.1.1 y.1.1) λ h=>af ⟨.zX x.1.1 (min x.1.2.1 y.1.2.1) (max x.1.2.2 y.1.2.2),x.2.zX rfl (qk _ _) (qj _ _),y.2.zX h (pr _ _) (pq _ _)⟩
noncomputable def qp:ae TO->ae TO->Prop
 |[],m=>m=[]
 |a::r,m=>∃b t,m=b::t/\k6 a b/\qp r t
theorem qp.uc{a:TO}{r m:ae TO}{Q:ae TO->Prop}(h:qp (a::r) m)(k:∀b t,k6 a b->qp r t->Q (b::t)):Q m:=aD h λ b h=>h.elim λ t h=>h.1▸k b t h.2.1 h.2.2
theorem qp.u0{m:ae TO}{Q:ae TO->Prop}(h:qp [] m)(k:Q []):Q m:=(show m=[] from h)▸k
theorem qp.cons{a b:TO}{r t:ae TO}(h:k6 a b)(k:qp r t):qp (a::r) (b::t):=⟨b,t,rfl,h,k⟩
theorem qp.refl:∀m:ae TO,qp m m
 |[]=>rfl
 |a::r=> .cons (k6.refl a) (qp.refl r)
noncomputable def jM:(a b:ae TO)->aq {j:ae TO // qp a j/\qp b j}
 |[],[]=>af ⟨[],rfl,rfl⟩
 |a::r,b::t=>ob (jO a b) λ x=>ob (jM r t) λ y=>af ⟨x.1::y.1, .cons x.2.1 y.2.1, .cons x.2.2 y.2.2⟩
 |_,_=>none
theorem qp.len:∀{a b:ae TO},qp a b->a.length=b.length
 |[],_=>λ h=>h.u0 (Q:=λ b=>0=b.length) rfl
 |_::r,_=>λ h=>h.uc (Q:=λ b=>r.length+1=b.length) λ aa aa aa h=>ah (·+1) h.len
theorem qp.at:∀{a b:ae TO} {i:Nat} {o:TO},qp a b->gR b i=af o->∃x,gR a i=af x/\k6 x o
 |[],_,i,o=>λ h=>h.u0 (Q:=λ b=>gR b i=af o->∃x,gR [] i=af x/\k6 x o) λ e=>cu e
 |x::r,_,i,o=>λ h=>h.uc (Q:=λ b=>gR b i=af o->∃y,gR (x::r) i=af y/\k6 y o) λ y t l h=>match i with
  |0=>λ e=>⟨x,rfl,ak e▸l⟩
  |i+1=>qp.at (i:=i) h
theorem qp.get:∀{a b:ae TO} {i:Nat} {o:TO},qp a b->gR a i=af o->∃x,gR b i=af x/\k6 o x
 |[],_,i,o=>λ aa e=>cu e
 |x::r,_,i,o=>λ h=>h.uc (Q:=λ b=>gR (x::r) i=af o->∃y,gR b i=af y/\k6 o y) λ y t l h=>match i with
  |0=>λ e=>⟨y,rfl,ak e▸l⟩
  |i+1=>qp.get (i:=i) h
theorem GM.le{t j:ae TO}{m:ae AO}(g:GM t m)(h:qp t j):GM j m:=
 ⟨h.len.symm.trans g.len,λ i o e=>(h.at e).elim λ x w=>(g.get i x w.1).imp λ aa=> .imp_right (w.2.go _ _),
  λ i o q e hq=>(h.at e).elim λ x w=>(h.get (g.enc i x q w.1 (w.2.q.symm.trans hq))).elim λ y z=>z.1.trans (ah af (z.2.ba rfl))⟩
noncomputable abbrev Out:=TV×ae TO
structure HX(a b:Out):Prop where
 v:Js a.1 b.1
 m:qp a.2 b.2
theorem HX.refl(a:Out):HX a a:=⟨λ aa g=>g,qp.refl _⟩
def jR(w:aC)(a b:TV):Jn a b:=match w with
 |true=>jV a b
 |false=>RY a b
abbrev JU(a b:Out):=aq {j:Out // HX a j/\HX b j}
def jU(w:aC)(a b:Out):JU a b:=ob (jR w a.1 b.1) λ x=>ob (jM a.2 b.2) λ y=>af ⟨(x.1,y.1),⟨x.2.1,y.2.1⟩,⟨x.2.2,y.2.2⟩⟩
noncomputable def jC{o x:Out}(q:JU o x)(r l:ae Out):ae Out:=match q with
 |some j=>j.1::r
 |none=>x::l
noncomputable def jIn(w:aC)(o:Out):ae Out->ae Out
 |[]=>[o]
 |x::r=>jC (jU w o x) r (jIn w o r)
abbrev FP(l l':ae Out):Prop:=∀x∈l,∃y,y∈l'/\HX x y
theorem FP.of{l l':ae Out}(h:∀x∈l,x∈l'):FP l l':=λ x hx=>⟨x,h x hx,HX.refl x⟩
theorem FP.up{l l':ae Out}{a:Out}(h:FP l l'):FP l (a::l'):=λ x hx=>(h x hx).imp λ aa=> .imp_left (aQ _)
theorem XG{o x:Out}{r l:ae Out}(ih:FP (o::r) l):∀q:JU o x,FP (o::x::r) (jC q r l)
 |some j=>aJ.mpr ⟨⟨j.1,aW,j.2.1⟩,aJ.mpr ⟨⟨j.1,aW,j.2.2⟩,FP.of λ aa h=>aQ _ h⟩⟩
 |none=>have ih:=aJ.mp (FP.up (a:=x) ih); aJ.mpr ⟨ih.1,aJ.mpr ⟨⟨x,aW,HX.refl x⟩,ih.2⟩⟩
theorem Ly(w:aC)(o:Out):∀l:ae Out,FP (o::l) (jIn w o l)
 |[]=>FP.of λ aa h=>h
 |x::r=>XG (Ly w o r) (jU w o x)
theorem k6.trans{a b c:TO}(h:k6 a b)(k:k6 b c):k6 a c:=⟨λ m o g=>k.go m o (h.go m o g),k.q.trans h.q,λ q=>k.ba (h.ba q▸rfl)⟩
theorem qp.trans:∀{a b c:ae TO},qp a b->qp b c->qp a c
 |[],_,c=>λ h=>h.u0 (Q:=λ b=>qp b c->qp [] c) id
 |x::a,_,c=>λ h=>h.uc (Q:=λ b=>qp b c->qp (x::a) c) λ y b l h k=>k.uc (Q:=qp (x::a)) λ aa aa l' k=> .cons (l.trans l') (h.trans k)
theorem HX.trans{a b c:Out}(h:HX a b)(k:HX b c):HX a c:=⟨λ v g=>k.v v (h.v v g),h.m.trans k.m⟩
noncomputable def Lx(w:aC):ae Out->ae Out
 |[]=>[]
 |o::r=>jIn w o (Lx w r)
theorem z0(w:aC):∀l:ae Out,FP l (Lx w l)
 |[]=>λ aa h=>bt h bN
 |o::r=>have c:=aJ.mp (Ly w o (Lx w r)); aJ.mpr ⟨c.1,λ x hx=>(z0 w r x hx).elim λ y z=>(c.2 y z.1).imp λ aa=> .imp_right z.2.trans⟩
noncomputable def Y9(o:AF×AS):Out:=match o.1 with
 | .d7=>(.ex .none,o.2.mem)
 | .ret t=>(t,o.2.mem)
noncomputable def zb:ae bM->ae TV->ae TV
 |_::r,v::vs=>v::zb r vs
 |_::r,[]=> .ex .undef::zb r []
 |[],_=>[]
theorem xa:∀(aR:ae bM) {ts:ae TV} {vs:ae AV},dD ts vs->dD (zb aR ts) (fill aR vs)
 |[],_,_=>λ aa=>rfl
 |x::r,[],_=>λ h=>h.u0 (Q:=λ vs=>dD (zb (x::r) []) (fill (x::r) vs)) ⟨.undef,_,rfl,rfl,xa r rfl⟩
 |x::r,t::ts,_=>λ h=>h.uc (Q:=λ vs=>dD (zb (x::r) (t::ts)) (fill (x::r) vs)) λ u us g gs=>⟨u,_,rfl,g,xa r gs⟩
section
variable{α:Type}
noncomputable def fN(n:Nat)(k:Nat->α):α:=DM (motive:=λ aa=>α) (k 0) (λ m aa=>k (rz m)) n
theorem ui(n:Nat)(k:Nat->α):fN n k=k n:=by cases n<;>rfl
def fI(i:Int)(k:Int->α):α:=Int.rec (motive:=λ aa=>α) (λ n=>fN n λ n=>k (.ofNat n)) (λ n=>fN n λ n=>k (.negSucc n)) i
theorem yE(i:Int)(k:Int->α):fI i k=k i:=by
 rcases i with n|n
 ·exact ui n λ n=>k (.ofNat n)
 ·exact ui n λ n=>k (.negSucc n)
noncomputable def fL{β:Type}(f:β->(β->α)->α)(l:ae β)(k:ae β->α):α:=o8 (motive:=λ aa=>(ae β->α)->α) (λ k=>k []) (λ t aa h k=>f t λ t=>h λ r=>k (t::r)) l k
theorem BZ{β:Type}{f:β->(β->α)->α}(h:∀t k,f t k=k t):∀(l:ae β) (k:ae β->α),fL f l k=k l
 |[],_=>rfl
 |t::r,k=>(h t λ t=>fL f r λ r=>k (t::r)).trans (BZ h r λ r=>k (t::r))
def fV(v:AV)(k:AV->α):α:=match v with
 | .own p=>fN p λ p=>k (.own p)
 |v=>k v
theorem W6(v:AV)(k:AV->α):fV v k=k v:=by
 rcases v with _|_|_|_|_|p|_|_|_|_|_|_|_|_|_|_|_|_
 case own=>exact ui p λ p=>k (.own p)
 all_goals rfl
noncomputable def fT(t:TV)(k:TV->α):α:=TV.rec (motive:=λ aa=>(TV->α)->α) (λ v k=>fV v λ v=>k (.ex v)) (λ l u k=>fI l λ l=>fI u λ u=>k (.rg l u)) (λ k=>k .ai) (λ k=>k .tb) (λ n k=>k (.Ju n))
 (λ aa aa a b k=>a λ a=>b λ b=>k (.tp a b)) (λ q k=>k (.rw q)) (λ k=>k .ln) (λ h t aa aa k=>k (.lc h t)) (λ v l u k=>k (.nr v l u)) (λ R k=>k (.gr R)) t k
theorem KL:∀(t:TV) (k:TV->α),fT t k=k t
 | .ex v,k=>W6 v λ v=>k (.ex v)
 | .rg l u,k=>(yE l λ l=>fI u λ u=>k (.rg l u)).trans (yE u λ u=>k (.rg l u))
 | .tp a b,k=>(KL a λ a=>fT b λ b=>k (.tp a b)).trans (KL b λ b=>k (.tp a b))
 | .ai,_=>rfl
 | .tb,_=>rfl
 | .Ju _,_=>rfl
 | .rw _,_=>rfl
 | .ln,_=>rfl
 | .lc _ _,_=>rfl
 | .nr _ _ _,_=>rfl
 | .gr _,_=>rfl
def fq(q:Int×Int)(k:Int×Int->α):α:=fI q.1 λ a=>fI q.2 λ b=>k (a,b)
theorem W_(q:Int×Int)(k:Int×Int->α):fq q k=k q:=(yE q.1 λ a=>fI q.2 λ b=>k (a,b)).trans (yE q.2 λ b=>k (q.1,b))
noncomputable def Tx(l:ae TV)(k:ae TV->α):α:=fL fT l k
def fO(o:TO)(k:TO->α):α:=TO.rec (motive:=λ aa=>(TO->α)->α) (λ ks vs k=>fL fN ks λ ks=>Tx vs λ vs=>k (.ns ks vs)) (λ C j k=>fN j λ j=>k (.inst C j)) (λ vs k=>Tx vs λ vs=>k (.lst vs)) (λ q k=>fL fq q λ q=>k (.il q))
 (λ n l u k=>fN n λ n=>fI l λ l=>fI u λ u=>k (.zX n l u)) (λ ks vs k=>Tx vs λ vs=>k (.iM ks vs)) (λ ks vs k=>Tx vs λ vs=>k (.bG ks vs)) (λ q L k=>fN q λ q=>fN L λ L=>k (.enc q L)) (λ k=>k .ba) (λ r k=>k (.ix r)) o k
theorem wg:∀(l:ae TV) (k:ae TV->α),Tx l k=k l:=BZ KL
theorem W5:∀(o:TO) (k:TO->α),fO o k=k o
 | .ns ks vs,k=>(BZ ui ks λ ks=>Tx vs λ vs=>k (.ns ks vs)).trans (wg vs λ vs=>k (.ns ks vs))
 | .inst C j,k=>ui j λ j=>k (.inst C j)
 | .lst vs,k=>wg vs λ vs=>k (.lst vs)
 | .il q,k=>BZ W_ q λ q=>k (.il q)
 | .zX n l u,k=>(ui n λ n=>fI l λ l=>fI u λ u=>k (.zX n l u)).trans ((yE l λ l=>fI u λ u=>k (.zX n l u)).trans (yE u λ u=>k (.zX n l u)))
 | .iM ks vs,k=>wg vs λ vs=>k (.iM ks vs)
 | .bG ks vs,k=>wg vs λ vs=>k (.bG ks vs)
 | .enc q L,k=>(ui q λ q=>fN L λ L=>k (.enc q L)).trans (ui L λ L=>k (.enc q L))
 | .ba,k=>rfl
 | .ix r,k=>rfl
noncomputable def fM(l:ae TO)(k:ae TO->α):α:=fL fO l k
theorem W4:∀(l:ae TO) (k:ae TO->α),fM l k=k l:=BZ W5
end
def jNj(nj w:aC)(l:ae Out):ae Out:=aY nj l (Lx w l)
theorem Ub(w:aC)(l:ae Out):∀nj:aC,FP l (jNj nj w l)
 |true=>FP.of λ aa h=>h
 |false=>z0 w l
def UU{P:cC}{ct:Ct}(nj w:aC)(b:SS P ct)(ts:ae TV)(tm:ae TO):aq (ae Out):=Tx ts λ ts=>fM tm λ tm=>ob (b.ab ⟨zb ct.aR ts,tm⟩) λ outs=>af (jNj nj w (outs.map Y9))
inductive D0{P:cC}{ct:Ct}(b:SS P ct)(σ:St)(p:Out->Prop):Prop
 |mk (v:AV) (m:ae AO) (o:Out) (ho:p o) (gv:GV o.1 v) (gm:GM o.2 m) (run:b.run σ (iE λ v' m'=>v'=v/\m'=m))
theorem D0.imp{P:cC}{ct:Ct}{b:SS P ct}{σ:St}{p q:Out->Prop}(k:∀o,p o->∃y,q y/\HX o y)(h:D0 b σ p):D0 b σ q:=by
 rcases h with⟨v,m,o,ho,gv,gm,run⟩
 exact(k o ho).elim λ y z=>⟨v,m,y,z.1,z.2.v v gv,gm.le z.2.m,run⟩
theorem UQ{P:cC}{ct:Ct}{b:SS P ct}{σ0 σ:St}{s:AS}{l:ae (AF×AS)}:∀{a:AF} {f:Fl},(a,s)∈l->GF a f->GS s σ->(∀K:Fl->St->Prop,K f σ->b.run σ0 K)->D0 b σ0 λ o=>o∈l.map Y9
 | .d7,f=>λ h gf gs k=>⟨.none,σ.mem,(.ex .none,s.mem),dM.mpr ⟨_,h,rfl⟩,rfl,gs.mem,k _ ((show f= .d7 from gf)▸⟨rfl,rfl⟩)⟩
 | .ret t,f=>λ h gf gs k=>aD gf λ v gf=>⟨v,σ.mem,(t,s.mem),dM.mpr ⟨_,h,rfl⟩,gf.2,gs.mem,k _ (gf.1▸⟨rfl,rfl⟩)⟩
theorem Hn{P:cC}{ct:Ct}{nj w:aC}{b:SS P ct}{ts:ae TV}{tm:ae TO}{outs:ae Out}{vs:ae AV}{m:ae AO}(fo:lT P)(h:UU nj w b ts tm=af outs)(gv:dD ts vs)(gm:GM tm m):D0 b ⟨fill ct.aR vs,m⟩ λ o=>o∈outs:=
 ob.u (((wg ts _).trans (W4 tm _)).symm.trans h) λ l e h=>(b.cN fo _ _ e ⟨fill ct.aR vs,m⟩ ⟨xa _ gv,gm⟩).u λ f σ a s hm gf gs k=>(UQ hm gf gs k).imp (ak h▸Ub w _ nj)
noncomputable def WL(q:Int×Int):ae (Int×Int):=[(q.1,-1),(0,0),(1,q.2)]
theorem OJ{q:Int×Int}{x:Int}(h0:q.1<=x)(h1:x<=q.2):∃p,p∈WL q/\p.1<=x/\x<=p.2:=
 (Int.lt_trichotomy x 0).elim (λ h=>⟨(q.1,-1),aW,h0,i_ h⟩) λ h=>h.elim (λ h=>⟨(0,0),aQ _ aW,dV h.symm,dV h⟩) λ h=>⟨(1,q.2),aQ _ (aQ _ aW),HM h,h1⟩
noncomputable def OK:ae (Int×Int)->ae (ae (Int×Int))
 |[]=>[[]]
 |q::r=>(WL q).flatMap λ p=>(OK r).map λ t=>p::t
theorem Gj:∀{q:ae (Int×Int)} {r:ae Int},qZ q r->∃p,p∈OK q/\qZ p r
 |[],_=>λ h=>⟨[],aZ.mpr rfl,h⟩
 |q::qs,_=>λ h=>h.uc (Q:=λ r=>∃p,p∈OK (q::qs)/\qZ p r) λ x r h0 h1 h=>(OJ h0 h1).elim λ p a=>(Gj h).elim λ t c=>⟨p::t,uW.mpr ⟨p,a.1,dM.mpr ⟨t,c.1,rfl⟩⟩,x,r,rfl,a.2.1,a.2.2,c.2⟩
noncomputable def SW{α:Type}(f:α->aq (ae Out)):ae α->aq (ae Out)
 |[]=>af []
 |t::r=>ob (f t) λ x=>ob (SW f r) λ y=>af (x++y)
theorem F3{α:Type}{f:α->aq (ae Out)}:∀{l:ae α} {outs:ae Out},SW f l=af outs->∀t∈l,∃x,f t=af x/\∀o∈x,o∈outs
 |[],_=>λ aa aa h=>bt h bN
 |a::r,outs=>λ h=>ob.u h λ x e h=>ob.u h λ y e2 h=>ak h▸aJ.mpr ⟨⟨x,e,λ o=>dx y⟩,λ t ht=>(F3 e2 t ht).imp λ z=> .imp_right λ b o ho=>dH x (b o ho)⟩
noncomputable def KR(ts:ae TV):aq {c:TV×TV×TV×TV // ts=[c.1,c.2.1,c.2.2.1,c.2.2.2]}:=match ts with
 |[a,b,c,d]=>af ⟨(a,b,c,d),rfl⟩
 |_=>none
noncomputable def aci(t:TV):aq {c:(Int×Int)×ae (Int×Int) // t= .rw (c.1::c.2)}:=match t with
 | .rw (q::r)=>af ⟨(q,r),rfl⟩
 |_=>none
def Y0(f:ae TV->aq (ae Out))(ts:ae TV):aq (ae Out):=ob (KR ts) λ c=>ob (aci c.1.2.2.2) λ q=>ob (SW (λ p=>f [c.1.1,c.1.2.1,c.1.2.2.1, .rw (q.1.1::p)]) (OK q.1.2)) λ l=>af (Lx false l)
theorem QH{f:ae TV->aq (ae Out)}{ts:ae TV}{outs:ae Out}{vs:ae AV}{R:(Out->Prop)->Prop}(hR:∀p q:Out->Prop,(∀o,p o->∃y,q y/\HX o y)->R p->R q)(h:Y0 f ts=af outs)(gv:dD ts vs)
  (k:∀uU l,f uU=af l->dD uU vs->R λ o=>o∈l):R λ o=>o∈outs:=
 ob.u h λ c aa h=>ob.u h λ q aa h=>ob.u h λ l e h=>(c.2▸gv:dD [c.1.1,c.1.2.1,c.1.2.2.1,c.1.2.2.2] vs).uc (Q:=λ vs=>(∀uU l,f uU=af l->dD uU vs->R λ o=>o∈l)->R λ o=>o∈outs) (λ v1 r g1 gv=>gv.uc (Q:=λ r=>(∀uU l,f uU=af l->dD uU (v1::r)->R λ o=>o∈l)->R λ o=>o∈outs) λ v2 r g2 gv=>
  gv.u2 (Q:=λ r=>(∀uU l,f uU=af l->dD uU (v1::v2::r)->R λ o=>o∈l)->R λ o=>o∈outs) λ v3 v4 g3 g4 k=>aD (q.2▸g4:GV (.rw (q.1.1::q.1.2)) v4) λ row g4=>aD g4.2 λ i z=>z.elim λ is z=>(Gj z.2.2.2).elim λ p hp=>(F3 e p hp.1).elim λ x w=>
   hR _ _ (λ o ho=>ak h▸z0 false l o (w.2 o ho)) (k _ x w.1 (.cons g1 (.cons g2 (.cons g3 (.cons ⟨row,g4.1,i,is,z.1,z.2.1,z.2.2.1,hp.2⟩ rfl)))))) k
structure mx where
 f:au
 ct:Ct
 xs:ae bM
 dm:Nat
 wide:aC
 VT:aC
 fz:aC
 nj:aC
 b:(P:cC)->SS P ct
noncomputable def fe(f:au)(ct:Ct)(xs:ae bM)(b:(P:cC)->SS P ct)(dm:Nat:=0)(wide:aC:=false)(VT:aC:=false)(fz:aC:=false)(nj:aC:=false):mx:=⟨f,ct,xs,dm,wide,VT,fz,nj,b⟩
def fi(f i j s:Nat)(dm:Nat:=0)(wide:aC:=false)(VT:aC:=false)(fz:aC:=false)(nj:aC:=false):mx:=⟨f,AZ false false (yG i j),FB (yG i j),dm,wide,VT,fz,nj,bo (AZ false false (yG i j)) (g8 (yG i j)) s⟩
def FT:ae mx:=[fi 28 4 0 0x1000c1012200a03040010506000050400a01 (fz:=true) (nj:=true),fi 35 5 0 0x20008102541800018581 (fz:=true) (nj:=true),fi 42 6 0 0x8001c6088800a100ca000c2840006e80000c002,fi 49 7 0 0x100065018004040161e0c002,fe 56 d4 (FB kI) sq,fi 61 9 0 0x20008102040201a30081002c00102040803e3461500840010001100 (fz:=true) (nj:=true),fe 68 cm (FB dZ) kX,fi 242 18 1 0x40010208000 (dm:=1),fi 242 18 1 0x40010208000 (dm:=2),fi 270 26 0 0x20a00101017c0020a08080be002830010105040405f000c005,fi 284 28 0 0x184040405f000c180,fi 298 30 0 0x4001000c0000008000,fi 312 31 1 0x17400300101000604002,fi 319 31 2 0x100001c002000031d38780800a001010000005,fi 326 31 3 0x142030478781001808004000030014200,fi 333 31 4 0x28940283013e3c008120806400882880e180a11e28480101c301be00386037c0230a002840a1400110080060e180df0014002001800200080000a0038602101000e080070010280080c004,fi 396 35 0 0x120306080800000003 (wide:=true),fi 403 36 0 0x4800000,fi 410 37 0 0x40010000000,fi 417 38 0 0x1000406100004a3c0010800104,fi 424 39 0 0x102a0040401f1e00101017c0020a08080be00284000c105040405f0010005040405f0010005,fi 445 41 1 0x5d0098e1e0030300081400b080050300241001004002,fi 452 41 2 0x2538f38780800a001010000005,fi 459 41 3 0x1c281be0000b0e003880810008001c009523c38502a078010000801806f800e140df008c4040000207060128f101c385037c0080000207060128f101c281be003070000507001000b00281aa1e182000a002820008004 (VT:=true),fi 586 50 1 0xbd0802404011,fi 593 50 2 0x6e8000440805e84012,fi 600 50 3 0x8080240e5000044180,fi 607 50 4 0x4b180,fi 621 51 0 0x1000811804000c10302542000600002,fi 626 52 0 0x188104540810004680,fi 633 53 0 0x180001000b00844010801032400c88004010331e1000b0000202007da8f007da1f0644000420018008d938000880004200004002c021020103750000220001080,fi 640 54 0 0x4040391ee1100,fi 647 56 0 0x1ac0013c0006700000e6 (fz:=true) (nj:=true),fi 654 57 0 0x6c01ac003040009e000338304000e6 (fz:=true) (nj:=true),fi 661 58 0 0x80048012002813c0028422003862a0c406280848628144000c54287001409e0000d800c04f000a14004060809e00000e6 (fz:=true) (nj:=true),fe 675 dP (FB iV) kj,fi 696 66 0 0x204000,fi 710 67 1 0x800b0300541002804013,fi 731 68 1 0x300121401b0800d0300641003004017,fi 736 68 2 0x4a01006c480,fi 741 68 3 0x4a81006c480,fi 748 68 4 0xd2004803500780,fi 755 68 5 0xd4004803300780,fi 762 68 6 0x1a8115006600f0600069045001a803c181006c002,fi 769 68 7 0x120e00f00241401e00080d00c100,fi 776 68 8 0x11501b011401ac001006c002,fi 795 70 1 0x2021028300748800407684060009b00141000074089022401c,fi 802 70 2 0x1001c0800002060401d0000004,fi 809 70 3 0x416081810074000,fi 830 72 1 0x70010300441400b080108300801003e0401e,fi 837 72 2 0x3c00000,fe 858 hJ (FB mI) vW,fi 865 75 0 0x8000000000000002000400000040000400000,fi 872 76 0 0x40210f8290000843e1a3030d1820108781 (fz:=true) (nj:=true),fi 877 77 0 0xc1000e20203001c404057c002843c085001c404060210f001c4040614288001828700100ed0c14001360028400040c44a0c101 (nj:=true),fi 882 78 0 0x102843c0820a001051715300010878201087c54c000421e000421e080421f153000108780026c002 (fz:=true) (nj:=true),fi 887 79 0 0x80028106080860a14304220001b0050300da00285001020504041033c000830a080800278000ce0c1000278000 (fz:=true) (nj:=true),fi 892 80 0 0xc00083040c20004042870e101062200284001c3800c1000306002810118784 (fz:=true) (nj:=true)]
def FJ:ae mx:=[fe 256 l8 (FB qc) pS,fe 263 l7 (FB qb) pR,fe 529 gT (FB jN) jG,fe 536 gY (FB lP) lJ,fe 543 cj (FB gD) kh,fe 550 cH (FB eV) iC,fe 557 fP (FB iF) iB,fe 564 cn (FB fX) jH]
def FL:ae mx:=[fe 682 gC (FB gU) lV,fe 689 bT (FB dY) lU]
def FA:ae mx:=FT++FJ++FL
noncomputable def P0(prog:aK)(w:bw):cC where
 prog:=prog
 w:=w
 K:=[]
 gl:=[]
 at_:=λ aa aa=>false
 Φ:=λ aa=>False
 d:=1
 j:=true
 mono:=λ aa aa aa h=>h
 base:=λ aa h=>h.elim
 glob:=λ aa aa aa aa h=>h.elim
 attr:=λ aa aa h=>nomatch h
 I7:=λ aa h=>h.elim
 blt:=[]
 BF:=λ aa h=>by cases h
 init:=λ aa=>none
 EI:=λ aa aa h=>nomatch h
 uR:=λ aa aa=>none
 EX:=λ aa aa aa h=>nomatch h
 cB:=λ aa aa aa=>none
noncomputable def WT(K:f_)(fd:d5):aC:=x7 fd.defaults λ T=>r9 (K.lookup T) λ o=>U5 o (Cj [0])
theorem OO{K:f_}{fd:d5}(h:WT K fd=true):∃T o t n,fd.defaults= .ref T/\K.lookup T=af o/\o.data= .seq #[.int 0 t] n:=
 (ma h).elim λ T h=>h_ h.2 λ o e h'=>(Hq h').elim λ vs z=>z.elim λ n z=>aD (u8 z.2) λ t w=>w.elim λ r w=>⟨T,o,t,n,h.1,e,z.1.trans (ah (tX · n) (Array.toList_inj.mp (w.1.trans (ah (eA 0 t::·) w.2))))⟩
def Eu(K:f_)(e:mx):aC:=W7 K e.ct e.xs e.f&&(oY (fdOf K e.f).params e.xs&&aY (a_ e.dm 0) (noV (fdOf K e.f).defaults) (WT K (fdOf K e.f)&&(e.xs==NL)))
theorem SD(fd:d5)(vs:ae am):FA.map (λ e=>bindArgs (Xb fd e.xs .none) ⟨vz e.xs vs,[]⟩)=FA.map λ e=>pure (e.xs.zip (vz e.xs vs)):=by kernel_rfl
theorem VY{e:mx}(he:e∈FA):Q_ e.xs:=λ fd vs=>nR.mp (SD fd vs) e he
structure WK(prog:aK)(w:bw) where
 K:f_
 tabs:tabsOk K TT=true
 fns:FA.all (Eu K)=true
 aaB:FA.map (λ e=>(fdOf K e.f).body)=FA.map (λ e=>gS (e.b (P0 prog w)).bA)
abbrev xI:=au->ae TV->ae TO->aq (ae Out)
def PV{prog:aK}{w:bw}(W:WK prog w)(X:BM->Prop)(hX:∀G G',dC G G'->X G->X G')(d:Nat)(j:aC)(cB:xI):cC:=X4 prog w W.K TT W.tabs X hX d j cB
theorem SH(P Q:cC):FA.map (λ e=>(e.b P).bA)=FA.map (λ e=>(e.b Q).bA):=by kernel_rfl
section
variable{prog:aK}{w:bw}(W:WK prog w){X:BM->Prop}{hX:∀G G',dC G G'->X G->X G'}{d:Nat}{j:aC}{cB:xI}
theorem JC:FT.all (λ e=>(e.b (PV W X hX (d+1) j cB)).b_)=true:=by kernel_rfl
theorem Ra{e:mx}(he:e∈FT):e.ct.tb=false:=by
 have h:FT.all (λ e=>!e.ct.tb)=true:=by kernel_rfl
 simpa using bj.mp h e he
theorem SF:FJ.all (λ e=>(e.b (PV W X hX (d+1) true cB)).b_)=true:=by kernel_rfl
noncomputable def BP(dm:Nat):ae AV:=aY (a_ dm 1) [.int 0] []
theorem SG:FL.all (λ e=>(e.b (PV W X hX (d+1) j cB)).b_)=true:=by kernel_rfl
theorem D5{e:mx}(bd:Q_ e.xs)(h0:a_ e.dm 0=true)(hf:Eu W.K e=true)(hb:(fdOf W.K e.f).body=gS (e.b (PV W X hX d j cB)).bA):FnAt (PV W X hX d j cB) e.ct e.f e.xs [] (e.b (PV W X hX d j cB)).bA:=
 have h1:=aG hf
 have h2:=aG h1.2
 zQ (P:=PV W X hX d j cB) h1.1 hb λ s vals aa l=>sO bd h2.1 (Mc ((ah (aY · _ _) h0).symm.trans h2.2)) s vals l
theorem Tg{n:Nat}(h:a_ n 1=true):BP n=[.int 0]:=ah (aY · _ _) h
theorem Kw{n:Nat}(h:a_ n 1=false):BP n=[]:=ah (aY · _ _) h
theorem zI{e:mx}(he:e∈FA):∃dv,(∀G ρ,bI G ρ (BP e.dm) dv)/\FnAt (PV W X hX d j cB) e.ct e.f e.xs dv (e.b (PV W X hX d j cB)).bA:=by
 have hb:=(nR.mp W.aaB e he).trans (ah gS (nR.mp (SH (P0 prog w) (PV W X hX d j cB)) e he))
 have hf:=bj.mp W.fns e he
 have h1:=aG hf
 have h2:=aG h1.2
 cases q:a_ e.dm 0 with
 |true=>exact⟨[],λ G ρ=>(Kw (ah (a_ · 1) (aL q))).symm▸bI.nil,D5 W (VY he) q hf hb⟩
 |false=>
  have h3:=aG ((ah (aY · _ _) q).symm.trans h2.2)
  have ex:e.xs=NL:=be.mp h3.2
  have h4:oY (fdOf W.K e.f).params NL=true:=ex▸h2.1
  refine(OO h3.1).elim λ T z=>z.elim λ o z=>z.elim λ t z=>z.elim λ n z=>?_
  cases q2:a_ e.dm 1 with
  |true=>exact⟨[.int 0 t],λ G ρ=>(Tg q2).symm▸bI.cons VR.mA bI.nil,zQ (P:=PV W X hX d j cB) h1.1 hb λ s vals hK l=>ex.symm▸Ep h4 z.1 s (hK _ _ z.2.1) z.2.2 vals (eG (l.trans (ah fU ex)))⟩
  |false=>exact⟨[],λ G ρ=>(Kw q2).symm▸bI.nil,zQ (P:=PV W X hX d j cB) h1.1 hb λ s vals hK l=>ex.symm▸(bQ vals).symm▸KA h4 z.1 s (hK _ _ z.2.1) z.2.2 vals (l.trans (ah fU ex))⟩
end
noncomputable def bP:xI:=λ aa aa aa=>none
def PQ{prog:aK}{w:bw}(W:WK prog w)(X:BM->Prop)(hX:∀G G',dC G G'->X G->X G')(d:Nat):cC:=PV W X hX d true bP
section
variable{prog:aK}{w:bw}{W:WK prog w}{X:BM->Prop}{hX:∀G G',dC G G'->X G->X G'}{d:Nat}{j:aC}{cB:xI}
theorem at_of{i:Nat}{e:mx}(h:FJ[i]?=af e)(h0:e.dm=0):FnAt (PV W X hX d j cB) e.ct e.f e.xs [] (e.b (PV W X hX d j cB)).bA:=
 (zI W (X:=X) (hX:=hX) (d:=d) (j:=j) (cB:=cB) (dx FL (dH FT (dy h)))).elim λ dv z=>
  (h0▸z.1 (λ aa=>none) []:bI (λ aa=>none) [] (BP 0) dv).u0 (Q:=λ dv=>FnAt (PV W X hX d j cB) e.ct e.f e.xs dv (e.b (PV W X hX d j cB)).bA->FnAt (PV W X hX d j cB) e.ct e.f e.xs [] (e.b (PV W X hX d j cB)).bA) id z.2
theorem zx:FnAt (PQ W X hX d) l8 256 ["bins","at"] [] (pS (PQ W X hX d)).bA:=at_of (i:=0) rfl rfl
theorem zw:FnAt (PQ W X hX d) l7 263 ["bins","at"] [] (pR (PQ W X hX d)).bA:=at_of (i:=1) rfl rfl
theorem qO:FnAt (PQ W X hX d) gT 529 ["self"] [] (jG (PQ W X hX d)).bA:=at_of (i:=2) rfl rfl
theorem tx:FnAt (PQ W X hX d) gY 536 ["self","bins","at","bit"] [] (lJ (PQ W X hX d)).bA:=at_of (i:=3) rfl rfl
theorem rM:FnAt (PQ W X hX d) cj 543 ["self"] [] (kh (PQ W X hX d)).bA:=at_of (i:=4) rfl rfl
theorem oG:FnAt (PQ W X hX d) cH 550 ["self"] [] (iC (PQ W X hX d)).bA:=at_of (i:=5) rfl rfl
theorem oF:FnAt (PQ W X hX d) fP 557 ["self"] [] (iB (PQ W X hX d)).bA:=at_of (i:=6) rfl rfl
theorem qP:FnAt (PQ W X hX d) cn 564 ["self"] [] (jH (PQ W X hX d)).bA:=at_of (i:=7) rfl rfl
theorem pW{i:Nat}{e:mx}(h:FJ[i]?=af e):(e.b (PQ W X hX (d+1))).b_=true:=bj.mp (SF W (X:=X) (hX:=hX) (d:=d) (cB:=bP)) e (dy h)
theorem xT:(pS (PQ W X hX (d+1))).b_=true:=pW (i:=0) rfl
theorem xS:(pR (PQ W X hX (d+1))).b_=true:=pW (i:=1) rfl
theorem pU:(jG (PQ W X hX (d+1))).b_=true:=pW (i:=2) rfl
theorem su:(lJ (PQ W X hX (d+1))).b_=true:=pW (i:=3) rfl
theorem qT:(kh (PQ W X hX (d+1))).b_=true:=pW (i:=4) rfl
theorem nV:(iC (PQ W X hX (d+1))).b_=true:=pW (i:=5) rfl
theorem nU:(iB (PQ W X hX (d+1))).b_=true:=pW (i:=6) rfl
theorem pV:(jH (PQ W X hX (d+1))).b_=true:=pW (i:=7) rfl
noncomputable def WM(dm:Nat):ae TV:=aY (a_ dm 1) [.ex (.int 0)] []
theorem Th(dm:Nat):dD (WM dm) (BP dm):=by
 unfold WM BP
 cases a_ dm 1
 ·rfl
 ·exact⟨_,[],rfl,rfl,rfl⟩
theorem dD.app:∀{ts uU:ae TV} {us rl:ae AV},dD ts us->dD uU rl->dD (ts++uU) (us++rl)
 |[],uU,_,rl=>λ h g=>h.u0 (Q:=λ us=>dD uU (us++rl)) g
 |t::ts,uU,_,rl=>λ h g=>h.uc (Q:=λ us=>dD (t::ts++uU) (us++rl)) λ aa aa a h=> .cons a (dD.app h g)
def fzO(n:Nat)(o:Out):aq Out:=ob (toAV o.1) λ v=>ob (toAOs o.2) λ m=>ob (ND n v.1 m.1) λ r=>ob (Mg r.2) λ t=>af (.ex r.1,t.1)
abbrev ZQ(n:Nat):ae Out->aq (ae Out):=iZ (fzO n)
theorem wE{α β:Type}{g:α->aq β}:∀{l:ae α} {r:ae β},iZ g l=af r->∀a∈l,∃b,b∈r/\g a=af b
 |[],_=>λ aa aa h=>bt h bN
 |a::l,r=>λ h=>ob.u h λ y e h=>ob.u h λ ys e2 h=>ak h▸aJ.mpr ⟨⟨y,aW,e⟩,λ x hx=>(wE e2 x hx).imp λ aa=> .imp_left (aQ _)⟩
theorem DW.fz{P:cC}{f:au}{vs:ae AV}{m:ae AO}{outs R_:ae Out}(h:DW P f vs m outs)(e:ZQ m.length outs=af R_):DW P f vs m R_:=
 h.elim λ v h=>h.elim λ m' h=>h.1.elim λ o z=>(wE e o z.1).elim λ o' y=>ob.u y.2 λ v0 aa e=>ob.u e λ m0 aa e=>ob.u e λ r hr e=>ob.u e λ t aa e=>
  ⟨r.1,r.2,⟨o',y.1,ak e▸⟨rfl,CQ t.2⟩⟩,WC.fz (h.2.mono λ v' Uq q=>⟨r,(ah (λ x=>ND m.length x Uq) (q.1.trans (v0.2 _ z.2.1))).trans ((ah (ND m.length v0.1) (q.2.trans (m0.2 m' m' z.2.2.len.symm z.2.2.get))).trans hr),rfl,rfl⟩)⟩
def fzC(b:aC)(n:Nat)(x:aq (ae Out)):aq (ae Out):=aY b (ob x (ZQ n)) x
def Sh(P:cC)(e:mx)(ts:ae TV)(tm:ae TO):aq (ae Out):=aY (a_ (ts++WM e.dm).length e.xs.length) (aY e.VT (Y0 (λ ts=>UU false false (e.b P) ts tm) (ts++WM e.dm)) (UU e.nj e.wide (e.b P) (ts++WM e.dm) tm)) none
def YJ(P:cC)(e:mx)(ts:ae TV)(tm:ae TO):aq (ae Out):=fzC e.fz tm.length (Sh P e ts tm)
noncomputable def KM(P:cC):ae mx->xI
 |[],_,_,_=>none
 |e::r,f,ts,tm=>aY (a_ e.f f) (oe (YJ P e ts tm) (KM P r f ts tm)) (KM P r f ts tm)
section
variable{P:cC}(hP:P=PV W X hX (d+1) j cB)(fo:lT P)
include hP fo
theorem Da{e:mx}(he:e∈FT){ts:ae TV}{tm:ae TO}{outs:ae Out}(h:Sh P e ts tm=af outs){vs:ae AV}{m:ae AO}(gv:dD ts vs)(gm:GM tm m):DW P.up e.f vs m outs:=
 condB h (λ hl h=>have gv':=gv.app (Th e.dm); have key:D0 (e.b P) ⟨fill e.ct.aR (vs++BP e.dm),m⟩ (λ o=>o∈outs):=condB h (λ aa h=>QH (λ aa aa=>D0.imp) h gv' λ aa aa e1 g1=>Hn fo e1 g1 gm) λ aa h=>Hn fo h gv' gm
  (by
   subst hP
   rcases key with⟨v,m',o,ho,g1,g2,r⟩
   exact(zI W (X:=X) (hX:=hX) (d:=d+1) (j:=j) (cB:=cB) (dx FL (dx FJ he))).elim λ dv z=>⟨v,m',⟨o,ho,g1,g2⟩,WC.fn z.2 z.1 (bj.mp (JC W) e he) (Ra he) ((ah (vs.length+·) (z.1 (λ aa=>none) []).length).trans (bh.symm.trans (gv'.len.trans (aL hl)))) r⟩)) λ aa h=>cu h
theorem Qs{e:mx}(he:e∈FT){ts:ae TV}{tm:ae TO}{outs:ae Out}(h:YJ P e ts tm=af outs){vs:ae AV}{m:ae AO}(gv:dD ts vs)(gm:GM tm m):DW P.up e.f vs m outs:=
 condB h (λ aa h=>ob.u h λ l e1 e2=>(Da hP fo he e1 gv gm).fz (gm.len▸e2)) λ aa h=>Da hP fo he h gv gm
theorem Gp:∀{l:ae mx},(∀e∈l,e∈FT)->∀{f:au} {ts:ae TV} {tm:ae TO} {outs:ae Out},KM P l f ts tm=af outs->∀{vs:ae AV} {m:ae AO},dD ts vs->GM tm m->DW P.up f vs m outs
 |[],_,_,_,_,_=>λ h=>cu h
 |e::r,hl,f,ts,tm,outs=>λ h vs m gv gm=>have k:=aJ.mp hl; have ih h:=Gp k.2 (f:=f) (ts:=ts) (tm:=tm) (outs:=outs) h gv gm
  condB h (λ q h=>oe.v h (λ h=>aL q▸Qs hP fo k.1 h gv gm) ih) λ aa h=>ih h
end
theorem DW.le{P Q:cC}(x:P.Le Q){f:au}{vs:ae AV}{m:ae AO}{outs:ae Out}(h:DW P f vs m outs):DW Q f vs m outs:=h.imp λ aa=> .imp λ aa=> .imp_right (WC.up x)
end
noncomputable def sT:ae Nat->Nat->aC
 |[],_=>true
 |i::r,n=>fK i n&&(r.all (λ j=>!a_ i j)&&sT r n)
theorem qB:∀{l:ae Nat} {n:Nat},sT l n=true->l.Nodup/\∀i∈l,i < n
 |[],_=>λ aa=>⟨f8,λ aa h=>bt h bN⟩
 |i::r,n=>λ h=>have h:=aG h; have h':=aG h.2; have z:=qB h'.2
  ⟨dS.mpr ⟨λ hm=>ay ((ah (!·) (uD i)).symm.trans (bj.mp h'.1 i hm)),z.1⟩,aJ.mpr ⟨mz h.1,z.2⟩⟩
abbrev N2(M:ae AO)(sel:ae Nat)(mem:ae AO):Prop:=iZ (bK M) sel=af (mem.map (la (eQ sel M.length)))
theorem WC.use{P:cC}{f:au}{dr qQ:ae AV}{mem:ae AO}{V5 K:AV->ae AO->Prop}(sel:ae Nat){M:ae AO}(h:WC P f dr mem V5)(ha:qQ=ei (eQ sel M.length) dr)(vh:sT sel M.length=true)(len:sel.length=mem.length)
  (hm:N2 M sel mem) (k:∀v m,V5 v m->K (el (eQ sel M.length) v) (upd (eQ sel M.length) sel m M)):WC P f qQ M K:=
 ha▸(WC.BS h sel M (qB vh).1 len λ i j ao h1 h2=>(ve hm i _ (eM.trans (ah (e6 _) h2))).elim λ x w=>(ak (w.1.symm.trans h1):x=j)▸(eI _ _).symm.trans w.2).mono λ v m z=>z.elim λ pf z=>z.elim λ mem' z=>z.2.1▸z.2.2.1▸k _ _ z.1
theorem WC.Fx{P:cC}{f:au}{dr qQ:ae AV}{mem:ae AO}{s6:AV}{CF:ae AO}{K:AV->ae AO->Prop}(sel:ae Nat){M:ae AO}(h:WC P f dr mem (λ v m=>v=s6/\m=CF))(ha:qQ=ei (eQ sel M.length) dr)(vh:sT sel M.length=true)(len:sel.length=mem.length)
  (hm:N2 M sel mem) (k:K (el (eQ sel M.length) s6) (upd (eQ sel M.length) sel CF M)):WC P f qQ M K:=
 WC.use sel h ha vh len hm λ v m z=>z.1▸z.2▸k
theorem tF:∀{l:ae Int} {i:Nat},i < l.length->intAt l i∈l
 |_::_,0,_=>aW
 |_::r,i+1,h=>aQ _ (tF (l:=r) (by simpa using h))
theorem wW:∀(l:ae Int) (i:Nat) (v:Int),(setInt l i v).length=l.length:=λ l i v=>by rw[qC]; simp
theorem wX{l:ae Int}{i:Nat}{v x:Int}(h:x∈setInt l i v):x=v\/x∈l:=by
 rw[qC] at h
 exact(List.mem_or_eq_of_mem_set h).symm
structure ke(n:Nat)(ss ns:ae Int):Prop where
 s:ss.length=n
 n:ns.length=n
 so:∀x∈ss,0<=x/\x < 114
 no:∀x∈ns,x=0\/x=1
structure N0(r:ae Int):Prop where
 n:r.length=4
 l0:1<=intAt r 0
 l1:intAt r 0<=23314
 a:0<=intAt r 1/\intAt r 1 < 114
 b:0<=intAt r 2/\intAt r 2 < 114
def ach(r:ae Int):aC:=(a_ r.length 4)&&(decide (1<=intAt r 0)&&(decide (intAt r 0<=23314)&&(decide (0<=intAt r 1/\intAt r 1 < 114)&&decide (0<=intAt r 2/\intAt r 2 < 114))))
theorem Hm:(VG.all ach&&a_ VG.length 114)=true:=by decide+kernel
theorem y7:∀{l:ae (ae Int)} {i:Nat},i < l.length->rowAt l i∈l
 |_::_,0,_=>aW
 |_::r,i+1,h=>aQ _ (y7 (l:=r) (by simpa using h))
theorem N1:VG.length=114:=aL (aG Hm).2
theorem US{x:Int}(h:0<=x/\x < 114):N0 (rowAt VG x.toNat):=
 have z:=aG (bj.mp (aG Hm).1 _ (y7 (io ((mR h.1).mpr h.2) N1.symm)))
 have y:=aG z.2; have x:=aG y.2; have w:=aG x.2
 ⟨aL z.1,a4 y.1,a4 x.1,a4 w.1,a4 w.2⟩
theorem nd{p:Prop}[fA p]{k:Prop}(q:p)(h:k):need p k:=by unfold need; rw[cy q]; exact h
theorem br{p:Prop}[fA p]{a b:Prop}(h1:p->a)(h2:¬p->b):aY (decide p) a b:=by
 by_cases q:p
 ·rw[cy q]; exact h1 q
 ·rw[dh q]; exact h2 q
noncomputable def gW{α:Type}(R:(α->Prop)->Prop)(I:α->Prop):Prop:=∃a,I a/\∀K:α->Prop,K a->R K
section
variable{α β:Type}{I:α->Prop}
noncomputable abbrev cL(i:Int)(n:Nat):Prop:=0<=i/\i < (n:Int)/\i < 4611686018427387904
theorem Ea{i:Int}{n L:Nat}(h0:0<=i)(h1:i < n)(hb:n < 1000)(e:L=n):cL i L:=⟨h0,e▸h1,dk h1 (dk (mQ.mpr hb) (by decide))⟩
theorem gW.ret{a:α}(h:I a):gW (λ K=>K a) I:=⟨a,h,λ aa k=>k⟩
theorem gW.nd{p:Prop}[fA p]{R:(α->Prop)->Prop}(q:p)(h:gW R I):gW (λ K=>need p (R K)) I:=let ⟨a,i,k⟩:=h; ⟨a,i,λ K z=>Mine.nd q (k K z)⟩
theorem gW.br{b:aC}{A B:(α->Prop)->Prop}(h1:b=true->gW A I)(h2:b=false->gW B I):gW (λ K=>aY b (A K) (B K)) I:=by
 cases b with
 |true=>exact h1 rfl
 |false=>exact h2 rfl
theorem gW.S7{p:Prop}[fA p]{A B:(α->Prop)->Prop}(h1:p->gW A I)(h2:¬p->gW B I):gW (λ K=>aY (decide p) (A K) (B K)) I:=
 gW.br (λ h=>h1 (a4 h)) λ h=>h2 (oC h)
end
noncomputable def fh(P:cC)(f:au)(dr:ae AV)(mem:ae AO)(I:AV->ae AO->Prop):Prop:=∃v m,I v m/\WC P f dr mem λ v' m'=>v'=v/\m'=m
theorem fh.fn{P:cC}{ct:Ct}{f:au}{xs:ae bM}{dv:ae am}{da:ae AV}{b:SS P ct}{dr:ae AV}{mem:ae AO}{I:AV->ae AO->Prop}(H:FnAt P ct f xs dv b.bA)(hd:∀G ρ,bI G ρ da dv)(b_:b.b_=true)(Lh:ct.tb=false)
  (hl:dr.length+dv.length=xs.length) (h:gW (λ K=>b.run ⟨fill ct.aR (dr++da),mem⟩ (iE λ v m=>K (v,m))) λ a=>I a.1 a.2):fh P.up f dr mem I:=by
 obtain⟨⟨v,m⟩,i,k⟩:=h
 exact⟨v,m,i,WC.fn H hd b_ Lh hl (k (λ a=>a.1=v/\a.2=m) ⟨rfl,rfl⟩)⟩
theorem gW.yq{P:cC}{f:au}{dr:ae AV}{mem:ae AO}{J:AV->ae AO->Prop}{α:Type}{I:α->Prop}{C:AV->ae AO->(α->Prop)->Prop}(h:fh P f dr mem J)
  (k:∀v m,J v m->gW (C v m) I):gW (λ K=>WC P f dr mem λ v m=>C v m K) I:=by
 obtain⟨v,m,j,z⟩:=h
 obtain⟨a,i,c⟩:=k v m j
 exact⟨a,i,λ K hk=>z.mono λ v' m' e=>by obtain⟨rfl,rfl⟩:=e; exact c K hk⟩
theorem fh.at{P:cC}{f:au}{dr qQ:ae AV}{mem:ae AO}{J I:AV->ae AO->Prop}(sel:ae Nat){M:ae AO}(h:fh P f dr mem J)(ha:qQ=ei (eQ sel M.length) dr)(vh:sT sel M.length=true)(len:sel.length=mem.length)
  (hm:N2 M sel mem) (k:∀v m,J v m->bB sel.length m.length=true/\I (el (eQ sel M.length) v) (upd (eQ sel M.length) sel m M)):fh P f qQ M I:=by
 obtain⟨v,m,j,z⟩:=h
 obtain⟨l,i⟩:=k v m j
 exact⟨_,_,i,WC.Fx sel z ha vh len hm ⟨rfl,rfl⟩⟩
theorem fh.use{P:cC}{f:au}{dr qQ:ae AV}{mem:ae AO}{J I:AV->ae AO->Prop}(sel:ae Nat){M:ae AO}(h:fh P f dr mem J)(ha:qQ=ei (eQ sel M.length) dr)(vh:sT sel M.length=true)(len:sel.length=mem.length)
  (hm:N2 M sel mem) (k:∀v m,J v m->I (el (eQ sel M.length) v) (upd (eQ sel M.length) sel m M)):fh P f qQ M I:=h.elim λ v z=>z.elim λ m z=>⟨_,_,k v m z.1,WC.Fx sel z.2 ha vh len hm ⟨rfl,rfl⟩⟩
def uA(t:St->(aC->St->Prop)->Prop)(b:St->(Fl->St->Prop)->Prop)(σ:St)(K:Sum St (Fl×St)->Prop):Prop:=
 t σ λ c aI=>aY c (b aI λ f aU=>r7 f aU (λ dz=>K (.inl dz)) λ f bZ=>K (.inr (f,bZ))) (K (.inr (.d7,aI)))
noncomputable def WR(I:Nat->St->Prop)(J:Fl×St->Prop)(n:Nat):Sum St (Fl×St)->Prop
 | .inl σ=>∃m,m < n/\I m σ
 | .inr a=>J a
def wGo(t:St->(aC->St->Prop)->Prop)(b:St->(Fl->St->Prop)->Prop)(N:Nat)(K:Fl×St->Prop):Sum St (Fl×St)->Prop
 | .inl σ=>lR t b N σ λ f bZ=>K (f,bZ)
 | .inr a=>K a
theorem gW.while{t:St->(aC->St->Prop)->Prop}{b:St->(Fl->St->Prop)->Prop}{I:Nat->St->Prop}{J:Fl×St->Prop}(step:∀n σ,I n σ->gW (uA t b σ) (WR I J n))(n:Nat):∀σ:St,I n σ->gW (λ K=>∃N,lR t b N σ λ f bZ=>K (f,bZ)) J:=
 n.strongRecOn (motive:=λ n=>∀σ:St,I n σ->gW (λ K=>∃N,lR t b N σ λ f bZ=>K (f,bZ)) J) λ n ih σ hi=>(step n σ hi).elim λ r z=>match r,z with
  | .inl bZ,z=>z.1.elim λ m y=>(ih m y.1 bZ y.2).imp λ a x=>⟨x.1,λ K hk=>(x.2 K hk).elim λ N h=>⟨N+1,z.2 (wGo t b N K) h⟩⟩
  | .inr a,z=>⟨a,z.1,λ K hk=>⟨1,z.2 (wGo t b 0 K) hk⟩⟩
theorem gW.eqv{α:Type}{I:α->Prop}{R R':(α->Prop)->Prop}(e:∀K,R K=R' K)(h:gW R' I):gW R I:=h.imp λ a=> .imp_right λ k K z=>(e K).mpr (k K z)
def pD{P:cC}{ct:Ct}(b:SS P ct)(K:Fl->St->Prop)(f:Fl)(σ:St):Prop:=r7 f σ (λ σ=>b.run σ K) K
theorem fh.go{P:cC}{ct:Ct}{f:au}{xs:ae bM}{b:SS P ct}{dr:ae AV}{mem:ae AO}{I:AV->ae AO->Prop}(H:FnAt P ct f xs [] b.bA)(b_:b.b_=true)(Lh:ct.tb=false)(hl:dr.length=xs.length){R:(AV×ae AO->Prop)->Prop}
  (e:∀K,b.run ⟨fill ct.aR (dr++[]),mem⟩ (iE λ v m=>K (v,m))=R K) (h:gW R λ a=>I a.1 a.2):fh P.up f dr mem I:=
 fh.fn H (λ aa aa=>bI.nil) b_ Lh hl (gW.eqv e h)
theorem gW.and{α:Type}{I:α->Prop}{p:Prop}{R:(α->Prop)->Prop}(q:p)(h:gW R I):gW (λ K=>p/\R K) I:=let ⟨a,i,k⟩:=h; ⟨a,i,λ K z=>⟨q,k K z⟩⟩
theorem gW.Wi{α:Type}{I:α->Prop}{p:Prop}{R:(α->Prop)->Prop}(q:p)(h:gW R I):gW (λ K=>R K/\p) I:=let ⟨a,i,k⟩:=h; ⟨a,i,λ K z=>⟨k K z,q⟩⟩
theorem gW.loop{α:Type}{I:α->Prop}{t:St->(aC->St->Prop)->Prop}{b:St->(Fl->St->Prop)->Prop}{σ:St}{J:Fl×St->Prop}{C:(α->Prop)->Fl->St->Prop}(h:gW (λ K=>∃N,lR t b N σ λ f bZ=>K (f,bZ)) J)(hc:∀r,J r->gW (λ K=>C K r.1 r.2) I):gW (λ K=>∃N,lR t b N σ (C K)) I:=
 h.elim λ r z=>(hc r z.1).imp λ a y=>⟨y.1,λ K k=>z.2 (λ x=>C K x.1 x.2) (y.2 K k)⟩
noncomputable def SA(n:Int)(len k:Nat):Prop:=(0<=n/\n < len/\n < 4611686018427387904/\k=n.toNat)\/(n= -1/\0 < len/\k=len - 1)
theorem gW.ty{α:Type}{I:α->Prop}{n:Int}{len:Nat}{C:Nat->(α->Prop)->Prop}{k:Nat}(h:SA n len k)(hc:gW (C k) I):gW (λ K=>ty n len λ k=>C k K) I:=
 hc.imp λ a z=>⟨z.1,λ K y=>h.elim (λ h=> .pos h.1 h.2.1 h.2.2.1 (h.2.2.2▸z.2 K y)) λ h=> .last h.1 h.2.1 (h.2.2▸z.2 K y)⟩
theorem L6{a b:Int}(ha:a.natAbs < 2 ^ 60)(hb:b.natAbs < 2 ^ 60):jD a b:=Jh (tf.mpr ha) (tf.mpr hb) (by decide)
theorem nf{A B:Prop}(e:A=B)(h:B):A:=e.mpr h
theorem WC.known{P:cC}{f:au}{dr:ae AV}{mem CF:ae AO}{s6:AV}{K:AV->ae AO->Prop}(h:WC P f dr mem λ v m=>v=s6/\m=CF)(k:K s6 CF):WC P f dr mem K:=h.mono λ aa aa q=>q.1.symm▸q.2.symm▸k
theorem sk{α:Type}{P:α->Prop}:∀x∈([]:ae α),P x:=λ aa h=>nomatch h
theorem all2{α:Type}{P:α->Prop}{a:α}{l:ae α}(h:P a)(k:∀x∈l,P x):∀x∈a::l,P x:=aJ.mpr ⟨h,k⟩
theorem rY{α β:Type}{f g:α->β}{l:ae α}(h:l.map f=l.map g):∀a∈l,f a=g a:=nR.mp h
section
variable{prog:aK}{w:bw}{W:WK prog w}{X:BM->Prop}{hX:∀G G',dC G G'->X G->X G'}
noncomputable def zA(ss ns:ae Int):ae AO:=[.ns [0,1] [.own 2, .own 3], .inst 245 0, .il ss, .il ns]
def wR(ss:ae Int)(i:Int):ae Int:=rowAt VG (intAt ss i.toNat).toNat
inductive Bj(n:Nat)(M:ae Int->ae Int->ae AO)(v:AV)(m:ae AO):Prop
 |mk (ss ns:ae Int) (hv:v= .none) (hm:m=M ss ns) (B:ke n ss ns)
theorem Bj.u{n:Nat}{M:ae Int->ae Int->ae AO}{v:AV}{m:ae AO}{G:AV->ae AO->Prop}(h:Bj n M v m)(k:∀ss ns,ke n ss ns->G .none (M ss ns)):G v m:=Bj.casesOn (motive:=λ aa=>G v m) h λ ss ns hv hm B=>hv▸hm▸k ss ns B
theorem N0.ix{l:ae Int}(r:N0 l){k:Int}(h0:0<=k)(h1:k < 4):cL k l.length:=Ea (n:=4) h0 h1 (by decide) r.n
theorem ke.set{n:Nat}{ss ns:ae Int}(B:ke n ss ns)(k:Nat){v:Int}(h:0<=v/\v < 114):ke n (setInt ss k v) ns:=⟨(wW ..).trans B.s,B.n,λ x hx=>(wX hx).elim (λ e=>e▸h) (B.so x),B.no⟩
theorem ke.qd{n:Nat}{ss ns:ae Int}(B:ke n ss ns)(k:Nat){v:Int}(h:v=0\/v=1):ke n ss (setInt ns k v):=⟨B.s,(wW ..).trans B.n,B.so,λ x hx=>(wX hx).elim (λ e=>e▸h) (B.no x)⟩
structure NO(n:Nat)(ss ns:ae Int)(i:Int):Prop where
 B:ke n ss ns
 b:cL i ss.length
 c:cL i ns.length
 s:cL (intAt ss i.toNat) 114
 r:N0 (wR ss i)
 v:1 - intAt ns i.toNat=0\/1 - intAt ns i.toNat=1
theorem ke.p{n:Nat}{ss ns:ae Int}{i:Int}(B:ke n ss ns)(h0:0<=i)(h1:i < n)(hb:n < 1000):NO n ss ns i:=
 have lt:i.toNat < n:=(mR h0).mpr h1
 have s:=B.so _ (tF (B.s.symm▸lt))
 ⟨B,Ea h0 h1 hb B.s,Ea h0 h1 hb B.n,⟨s.1,s.2,dk s.2 (by decide)⟩,US s,(B.no _ (tF (B.n.symm▸lt))).elim (λ e=> .inr (e.symm▸rfl)) λ e=> .inl (e.symm▸rfl)⟩
theorem L4{d:Nat}{n:Nat}{ss ns:ae Int}{i:Int}(p:NO n ss ns i):fh (PQ W X hX (d+2)) 256 [.own 1, .int i] (zA ss ns) (Bj n zA):=
 fh.go (P:=PQ W X hX (d+1)) zx xT rfl rfl (R:=λ K=>need (cL i ss.length) (need (cL (intAt ss i.toNat) 114) (need (cL 2 (wR ss i).length) (need (cL i ss.length) (K (.none,zA (setInt ss i.toNat (intAt (wR ss i) 2)) ns)))))) (λ K=>by kernel_rfl)
  (.nd p.b (.nd p.s (.nd (p.r.ix (by decide) (by decide)) (.nd p.b (.ret ⟨_,_,rfl,rfl,p.B.set _ p.r.b⟩)))))
theorem LP{d:Nat}{n:Nat}{ss ns:ae Int}{i:Int}(p:NO n ss ns i):fh (PQ W X hX (d+2)) 263 [.own 1, .int i] (zA ss ns) (Bj n zA):=
 fh.go (P:=PQ W X hX (d+1)) zw xS rfl rfl (R:=λ K=>need (cL i ss.length) (need (cL (intAt ss i.toNat) 114) (need (cL 3 (wR ss i).length)
   (aY (intAt (wR ss i) (gN 3)==1) (need (cL i ns.length) (need (cL i ns.length) (need (cL 1 (wR ss i).length) (need (cL i ss.length) (K (.none,zA (setInt ss i.toNat (intAt (wR ss i) 1)) (setInt ns i.toNat (1 - intAt ns i.toNat))))))))
    (need (cL 1 (wR ss i).length) (need (cL i ss.length) (K (.none,zA (setInt ss i.toNat (intAt (wR ss i) 1)) ns)))))))) (λ K=>by kernel_rfl)
  (.nd p.b (.nd p.s (.nd (p.r.ix (by decide) (by decide)) (.br (λ aa=> .nd p.c (.nd p.c (.nd (p.r.ix (by decide) (by decide)) (.nd p.b (.ret ⟨_,_,rfl,rfl,(p.B.set _ p.r.a).qd _ p.v⟩)))))
   λ aa=> .nd (p.r.ix (by decide) (by decide)) (.nd p.b (.ret ⟨_,_,rfl,rfl,p.B.set _ p.r.a⟩))))))
noncomputable def encM(size code left:Int)(bs:ae bX):ae AO:=[.ns [13,14,15,16] [.int size, .int code, .int left, .own 2], .inst 567 0, .ba bs]
theorem xX{l:ae bX}{i:Nat}{v:bX}(h:i < l.length):(l.set i v).getD i 0=v:=by rw[f7,List.getElem?_set_self h,Option.getD_some]
theorem B6{l:ae bX}{i j:Nat}{v:bX}(h:i≠j):(l.set i v).getD j 0=l.getD j 0:=by rw[f7,List.getElem?_set_ne h,← f7]
def CP(size code left oc i:Int)(bs:ae bX):St:=⟨[.own 1, .int oc, .int i],encM size code left bs⟩
inductive H0(size code left oc:Int)(L n:Nat)(σ:St):Prop
 |mk (bs:ae bX) (RT:σ=CP size code left oc (n - 1) bs) (hn:n<=L) (hl:bs.length=L) (hz:n=L\/bs.getD (L - 1) 0=0)
inductive SM(size code left oc:Int)(L:Nat)(r:Fl×St):Prop
 |mk (i:Int) (k:Nat) (bs:ae bX) (hr:r=(.d7,CP size code left oc i bs)) (hl:bs.length=L) (hk:SA i bs.length k) (hv:bs.getD k 0≠255)
theorem H0.u{size code left oc:Int}{L n:Nat}{σ:St}{G:Nat->St->Prop}(h:H0 size code left oc L n σ)(h0:0 < L)(k0:∀bs:ae bX,bs.length=L->bs.getD (L - 1) 0=0->G 0 (CP size code left oc (-1) bs))
  (k1:∀(m:Nat) (bs:ae bX),bs.length=L->m < L->m+1=L\/bs.getD (L - 1) 0=0->G (m+1) (CP size code left oc m bs)):G n σ:=by
 cases h with|mk bs RT hn hl hz=>
 subst RT
 cases n with
 |zero=>exact k0 bs hl (hz.resolve_left (dN h0))
 |succ m=>exact(Int.add_sub_cancel (m:Int) 1)▸k1 m bs hl hn hz
theorem Gc(b:bX)(h:b≠255):0<=(b.toNat:Int)+1/\(b.toNat:Int)+1 < 256:=by
 have h1:=b.toNat_lt
 have h2:b.toNat≠255:=λ e=>h (UInt8.toNat_inj.mp e)
 omega
theorem big{n:Nat}(h:n < 100000):(n:Int) < 4611686018427387904:=dk (mQ.mpr h) (by decide)
theorem byte_at{b:bX}(h:((b.toNat:Int)==255)=true):b=255:=UInt8.toNat_inj.mp (Int.ofNat.inj (be.mp h))
theorem E4{d:Nat}{size code left oc:Int}{L:Nat}(h0:0 < L)(hL:L < 100000)(n:Nat)(σ:St)(h:H0 size code left oc L n σ):
  gW (uA (e9 (PQ W X hX d)).run (e8 (PQ W X hX d)).run σ) (WR (H0 size code left oc L) (SM size code left oc L) n):=
 have nf (i:Int) (bs:ae bX) (K:Sum St (Fl×St)->Prop):uA (e9 (PQ W X hX d)).run (e8 (PQ W X hX d)).run (CP size code left oc i bs) K=
   ty i bs.length λ k=>aY (((bs.getD k 0).toNat:Int)==255) (need (cL i bs.length) (need (0<=(0:Int)/\(0:Int) < 256/\bs.length < 1000000) (K (.inl (CP size code left oc (i - 1) (bs.set i.toNat 0)))))) (K (.inr (.d7,CP size code left oc i bs))):=by kernel_rfl
 H0.u (G:=λ n σ=>gW (uA (e9 (PQ W X hX d)).run (e8 (PQ W X hX d)).run σ) (WR (H0 size code left oc L) (SM size code left oc L) n)) h h0
  (λ bs hl z=> .eqv (nf _ bs) (.ty (.inr ⟨rfl,hl▸h0,hl▸rfl⟩) (.br (λ q=>nomatch z.symm.trans (byte_at q)) λ aa=> .ret ⟨-1,L - 1,bs,rfl,hl, .inr ⟨rfl,hl▸h0,hl▸rfl⟩,λ e=>nomatch z.symm.trans e⟩)))
  λ m bs hl hm z=>
   have b:cL m bs.length:=⟨j9 m,mQ.mpr (hl▸hm),big (b9 hm hL)⟩
   have ba:SA m bs.length m:= .inl ⟨b.1,b.2.1,b.2.2,rfl⟩
   .eqv (nf _ bs) (.ty ba (.br (λ q=> .nd b (.nd ⟨by decide,by decide,hl▸b9 hL (by decide)⟩ (.ret ⟨m,jm m,bs.set m 0,rfl,eU hm,iI.trans hl,
     .inr ((jl m (L - 1)).casesOn (motive:=λ aa=>(bs.set m 0).getD (L - 1) 0=0) (λ n=>(B6 n).trans (z.resolve_left λ e=>n (Nat.eq_sub_of_add_eq e))) λ e=>e▸xX (hl▸hm))⟩)))
    λ q=> .ret ⟨m,m,bs,rfl,hl,ba,λ e=>nomatch (ah (λ b:bX=>((b.toNat:Int)==255)) e).symm.trans q⟩))
def Yj(P:cC):SS P cH:=iH (Sj (Dw (eW 0 p0) 16 p0) (eW 2 p0) p0 .Add (x_ 1 p0) p0) lC
def Yk(P:cC):SS P cH:=iH (Dc (Vt (Dw (eW 0 p0) 16 p0) p0 (iR (eW 1 p0) qU) p0 true) p0) lC
theorem fdiv_pow{a:Int}(b:Int)(h:0 < b):a.fdiv b=a / b:=i8 a (eT h)
inductive HZ(L:Nat)(M:ae bX->ae AO)(v:AV)(m:ae AO):Prop
 |mk (bs:ae bX) (hv:v= .none) (hm:m=M bs) (hl:bs.length=L+1)
theorem HZ.u{L:Nat}{M:ae bX->ae AO}{v:AV}{m:ae AO}{G:AV->ae AO->Prop}(h:HZ L M v m)(k:∀bs,bs.length=L+1->G .none (M bs)):G v m:=HZ.casesOn (motive:=λ aa=>G v m) h λ bs hv hm hl=>hv▸hm▸k bs hl
theorem PZ{code:Int}(h0:0<=code)(h1:code < 268435456):code.fdiv (2 ^ gN 19)=code / 524288/\0<=code / 524288/\code / 524288 < 512/\code.fmod (1 * 2 ^ gN 19)=code % 524288:=
 ⟨fdiv_pow _ (by decide),xw h0 (by decide),FC (by decide) h1,i9 _ (by decide)⟩
def Yl(P:cC)(size left oc cr:Int)(bs:ae bX)(K:AV×ae AO->Prop):Prop:=(0:Int)<=19/\((0:Int)<=19/\((0+1:Nat):Int)+19<=2 ^ 27)/\(1 * 2 ^ gN 19:Int)≠0/\
 aY (decide (oc > 255)) (need (bs.length < 4611686018427387904) (∃N,lR (e9 P).run (e8 P).run N (CP size cr left (oc - 256) (bs.length - 1) bs) (pD (Yj P) (pD (Yk P) (iE λ v m=>K (v,m))))))
  (("bytearray.append"="bytearray.append"/\need (0<=oc/\oc < 256/\bs.length < 1000000) (K (.none,encM size cr left (bs++[eC oc.toNat]))))/\("bytearray.append"="bytearray.append"->true=true))
theorem PY{d:Nat}{size cr oc left:Int}{bs:ae bX}(h0:0<=oc)(h1:oc < 512)(h2:255 < oc->0 < bs.length)(hl:bs.length < 100000):gW (Yl (PQ W X hX d) size left oc cr bs) λ a=>HZ bs.length (encM size cr left) a.1 a.2:=
 .and (by decide) (.and (by decide) (.and (by decide) (.S7 (λ q=>
   .nd (b9 hl (by decide)) (.loop (gW.while (E4 (h2 q) hl) bs.length _ ⟨bs,rfl,cE _,rfl, .inl rfl⟩) λ r j=>SM.casesOn (motive:=λ aa=>gW (λ K=>pD (Yj (PQ W X hX d)) (pD (Yk (PQ W X hX d)) (iE λ v m=>K (v,m))) r.1 r.2) λ a=>HZ bs.length (encM size cr left) a.1 a.2) j λ i k qS hr TZ hk hv=>hr▸
    .eqv (R':=λ K=>ty i qS.length λ k=>need (0<=((qS.getD k 0).toNat:Int)+1/\((qS.getD k 0).toNat:Int)+1 < 256/\qS.length < 1000000) (ty i qS.length λ k₁=>
     ("bytearray.append"="bytearray.append"/\need (0<=oc - 256/\oc - 256 < 256/\(qS.set k₁ (eC (((qS.getD k 0).toNat:Int)+1).toNat)).length < 1000000) (K (.none,encM size cr left (qS.set k₁ (eC (((qS.getD k 0).toNat:Int)+1).toNat)++[eC (oc - 256).toNat]))))/\("bytearray.append"="bytearray.append"->true=true))) (λ K=>by kernel_rfl)
     (.ty hk (.nd ⟨(Gc _ hv).1,(Gc _ hv).2,TZ▸b9 hl (by decide)⟩ (.ty hk (.Wi (λ aa=>rfl) (.and rfl (.nd ⟨l5 q,Int.sub_lt_of_sub_lt (Int.sub_lt_sub_right h1 _),aS (aT (iI.trans TZ)) (b9 hl (by decide))⟩ (.ret ⟨_,rfl,rfl,bh.trans (ah (·+1) (iI.trans TZ))⟩)))))))))
  λ q=> .Wi (λ aa=>rfl) (.and rfl (.nd ⟨h0,f9 (gV.mp q) (by decide),b9 hl (by decide)⟩ (.ret ⟨_,rfl,rfl,bh⟩))))))
theorem Af{d:Nat}{size code left:Int}{bs:ae bX}(h0:0<=code)(h1:code < 268435456)(h2:bs.length=0->code < 134217728)(hl:bs.length < 100000):
  fh (PQ W X hX (d+2)) 550 [.own 1] (encM size code left bs) (HZ bs.length (encM size (code % 524288) left)):=
 have z:=PZ h0 h1
 fh.go (P:=PQ W X hX (d+1)) oG nV rfl rfl (R:=Yl (PQ W X hX (d+1)) size left (code.fdiv (2 ^ gN 19)) (code.fmod (1 * 2 ^ gN 19)) bs) (λ K=>by kernel_rfl)
  (z.1▸z.2.2.2▸PY z.2.1 z.2.2.1 (λ q=>Nat.pos_of_ne_zero λ e=>bt (FC (b:=256) (by decide) (h2 e)) (gV.mpr q)) hl)
theorem mU.turn{lo lo' size code left mJ lx:Int}{L:Nat}(E:mU lo size code left L)(h0:lo'<=mJ)(h1:mJ<=65536)(h2:0<=lx)(h:lx+mJ<=code+size):mU lo' mJ lx left L:=
 have m:=dW h (Int.pow_nonneg (by decide):(0:Int)<=2 ^ left.toNat)
 ⟨h0,h1,h2,E.l0,E.l1,aO m E.ZL,λ e=>aO m (E.S8 e)⟩
theorem mU.shift{lo size code left:Int}{L:Nat}(E:mU lo size code left L){c:Int}(h1:c < code+size):c * 2 ^ left.toNat < 268435456/\(L=0->c * 2 ^ left.toNat < 134217728):=
 have m:=ya h1 (xi (by decide):(0:Int) < 2 ^ left.toNat)
 ⟨dk (j8 m E.ZL) (by decide),λ e=>j8 m (E.S8 e)⟩
theorem mU.code{lo size code left:Int}{L:Nat}(E:mU lo size code left L)(hp:0<=size):code<=150994944:=
 aO (Int.le_add_of_nonneg_right hp) (aO (aO (dV (rt _).symm) (fB (xi (by decide):(0:Int) < 2 ^ left.toNat) (Int.add_nonneg E.c0 hp))) E.ZL)
theorem Mr{left:Int}(h:1<=left):(2:Int) ^ left.toNat=2 * 2 ^ (left - 1).toNat:=
 have e:left=((left - 1).toNat:Int)+1:=(Int.sub_add_cancel left 1).symm.trans (ah (·+1) (sj (l5 h)).symm)
 (ah (λ z:Int=>(2:Int) ^ z.toNat) e).trans ((Int.pow_succ 2 _).trans (Int.mul_comm _ _))
theorem mU.twice{lo lo' size code left:Int}{L:Nat}(E:mU lo size code left L)(hl:1<=left)(hs:size < 32768)(h0:lo'<=size * 2):mU lo' (size * 2) (code * 2) (left - 1) L:=
 have m:(code * 2+size * 2) * 2 ^ (left - 1).toNat=(code+size) * 2 ^ left.toNat:=by rw[Mr hl,← Int.mul_assoc,Int.add_mul code]
 ⟨h0,aO (dW (eT hs) (by decide)) (by decide),rq E.c0 (by decide),l5 hl,aO (Int.sub_le_self _ (by decide)) E.l1,m▸E.ZL,λ e=>m▸E.S8 e⟩
theorem mU.out{lo size code lx:Int}{L L':Nat}(E:mU lo size code 0 L)(e:L'=L+1):mU lo size (lx % 524288) 8 L':=
 ⟨E.s0,E.s1,mj _ (by decide),by decide,by decide,aO (dW (rp (eT (j7 lx (by decide:(0:Int) < 524288))) E.s1) (by decide)) (by decide:((524288+65536) * 2 ^ gN 8:Int)<=150994944),λ z=>nomatch e.symm.trans z⟩
theorem mU.full{lo size code:Int}{L:Nat}(E:mU lo size code 0 L)(hp:1<=size):code < 268435456/\(L=0->code < 134217728):=
 have z:=E.shift (Int.lt_add_of_pos_right code hp)
 have e:code * 2 ^ gN 0=code:=rt code
 ⟨e▸z.1,λ h=>e▸z.2 h⟩
theorem X7{a:Int}(h0:0<=a)(h1:a<=150994944):jD a 2:=L6 (by omega) (by decide)
theorem Zp{size:Int}{n:Nat}(h:32768<=size * 2 ^ n)(q:size < 32768):∃m,n=m+1/\32768<=size * 2 * 2 ^ m:=by
 cases n with
 |zero=>exact bt (f9 (rt size▸h:32768<=size) q) (Int.lt_irrefl _)
 |succ m=>exact⟨m,rfl,by rw[Int.pow_succ,Int.mul_comm (2 ^ m) 2,← Int.mul_assoc] at h; exact h⟩
def uM(size code left:Int)(bs:ae bX):St:=⟨[.own 1],encM size code left bs⟩
inductive JO(B n:Nat)(σ:St):Prop
 |mk (size code left:Int) (bs:ae bX) (RT:σ=uM size code left bs) (E:mU 1 size code left bs.length) (l:1<=left) (hn:32768<=size * 2 ^ n) (hb:bs.length+n<=B)
inductive N6(B:Nat)(r:Fl×St):Prop
 |mk (size code left:Int) (bs:ae bX) (hr:r=(.d7,uM size code left bs)) (E:o_ size code left bs) (hb:bs.length<=B)
def acN(P:cC)(size code left:Int)(bs:ae bX)(K:Sum St (Fl×St)->Prop):Prop:=
 aY (decide (size < 32768)) (jD size 2/\jD code 2/\aY (left - 1==0)
   (WC P 550 [.own 1] (encM (size * 2) (code * 2) (left - 1) bs) λ aa m=>(MK (ct:=cj) (eW 0 p0) 15 p0 (x_ 8 p0) p0:SX P cj).run ⟨[.own 1],m⟩ λ f σ=>r7 f σ (λ σ=>K (.inl σ)) λ f σ=>K (.inr (f,σ)))
   (K (.inl (uM (size * 2) (code * 2) (left - 1) bs)))) (K (.inr (.d7,uM size code left bs)))
theorem Fy{d B:Nat}(hB:B < 90000)(n:Nat)(σ:St)(h:JO B n σ):gW (uA (iT (PQ W X hX (d+2))).run (iS (PQ W X hX (d+2))).run σ) (WR (JO B) (N6 B) n):=
 JO.casesOn (motive:=λ aa=>gW (uA (iT (PQ W X hX (d+2))).run (iS (PQ W X hX (d+2))).run σ) (WR (JO B) (N6 B) n)) h λ size code left bs RT E l hn hb=>RT▸
  .eqv (R':=acN (PQ W X hX (d+2)) size code left bs) (λ K=>by kernel_rfl)
   (.S7 (λ q=>(Zp hn q).elim λ m z=>
     have hb:bs.length+m < B:=Nat.lt_of_succ_le (aF (aT (ah (bs.length+·) z.1.symm)) hb)
     have lm:m < n:=z.1▸jm m
     have s0:0<=size:=aO (by decide) E.s0
     have s2:1<=size * 2:=aO E.s0 (aO (dV (rt _).symm) (fB (by decide) s0))
     have E':=E.twice (lo':=1) l q s2
     .and (X7 s0 (aO E.s1 (by decide))) (.and (X7 E.c0 (E.code s0)) (.br (λ q2=>
       have e0:left - 1=0:=be.mp q2
       have E0:mU 1 (size * 2) (code * 2) 0 bs.length:=e0▸E'
       have fl:=E0.full s2
       .yq (Af (d:=d) E'.c0 fl.1 fl.2 (aS (bq ..) (b9 hb (b9 hB (by decide))))) λ v m' j=>j.u (G:=λ aa m'=>gW (λ K=>(MK (ct:=cj) (eW 0 p0) 15 p0 (x_ 8 p0) p0:SX (PQ W X hX (d+2)) cj).run ⟨[.own 1],m'⟩ λ f σ=>r7 f σ (λ σ=>K (.inl σ)) λ f σ=>K (.inr (f,σ))) (WR (JO B) (N6 B) n)) λ qS hl=>
        .eqv (R':=λ K=>K (.inl (uM (size * 2) (code * 2 % 524288) 8 qS))) (λ K=>by kernel_rfl) (.ret ⟨m,lm,size * 2,_,8,qS,rfl,E0.out hl,by decide,z.2,hl▸Nat.succ_add ..▸hb⟩))
      λ q2=> .ret ⟨m,lm,size * 2,code * 2,left - 1,bs,rfl,E',Int.le_of_sub_nonneg (i_ (HO.mpr ⟨l5 l,λ e=>by rw[← e] at q2; cases q2⟩)),z.2,eU hb⟩)))
    λ q=> .ret ⟨size,code,left,bs,rfl,⟨E.turn (gV.mp q) E.s1 E.c0 (dR _),l⟩,aF (bq ..) hb⟩)
inductive zp(n L:Nat)(M:Int->Int->Int->ae bX->ae Int->ae Int->ae AO)(v:AV)(m:ae AO):Prop
 |mk (size code left:Int) (bs:ae bX) (ss ns:ae Int) (hv:v= .none) (hm:m=M size code left bs ss ns) (E:o_ size code left bs) (l:bs.length<=L+15) (B:ke n ss ns)
theorem zp.v{n L:Nat}{M:Int->Int->Int->ae bX->ae Int->ae Int->ae AO}{v:AV}{m:ae AO}(h:zp n L M v m):v= .none:=zp.casesOn (motive:=λ aa=>v= .none) h λ aa aa aa aa aa aa hv aa aa aa aa=>hv
inductive N5(L:Nat)(M:Int->Int->Int->ae bX->ae AO)(v:AV)(m:ae AO):Prop
 |mk (size code left:Int) (bs:ae bX) (hv:v= .none) (hm:m=M size code left bs) (E:o_ size code left bs) (l:bs.length<=L+15)
theorem Q4{d:Nat}{size code left:Int}{bs:ae bX}(E:mU 1 size code left bs.length)(l1:1<=left)(hb:bs.length < 20000):fh (PQ W X hX (d+3)) 543 [.own 1] (encM size code left bs) (N5 bs.length encM):=
 fh.go (P:=PQ W X hX (d+2)) rM qT rfl rfl (R:=λ K=>∃N,lR (iT (PQ W X hX (d+2))).run (iS (PQ W X hX (d+2))).run N (uM size code left bs) (pD (lC (ct:=cj)) (iE λ v m=>K (v,m)))) (λ K=>by kernel_rfl)
  (.loop (gW.while (Fy (B:=bs.length+15) (b9 (rx hb 15) (by decide))) 15 _ ⟨size,code,left,bs,rfl,E,l1,dW E.s0 (by decide:(0:Int)<=2 ^ 15),cE _⟩) λ r j=>N6.casesOn (motive:=λ aa=>gW (λ K=>pD (lC (P:=PQ W X hX (d+2)) (ct:=cj)) (iE λ v m=>K (v,m)) r.1 r.2) λ a=>N5 bs.length encM a.1 a.2) j λ size code left qS hr E l=>
   hr▸gW.ret (α:=AV×ae AO) (a:=(AV.none,encM size code left qS)) (N5.mk size code left qS rfl rfl E l))
noncomputable def pC(size code left:Int)(bs:ae bX)(ss ns:ae Int):ae AO:=[.ns [13,14,15,16] [.int size, .int code, .int left, .own 2], .inst 567 0, .ba bs, .ns [0,1] [.own 5, .own 6], .inst 245 3, .il ss, .il ns]
def Yy(P:cC)(i bit less:Int)(m:ae AO)(K:AV×ae AO->Prop):Prop:=(Dc (Dy (eW 0 p0) 36 p0 qU p0) p0:SX P gY).run ⟨[.own 1, .own 4, .int i, .int bit, .int less],m⟩ (iE λ v m=>K (v,m))
def Mt(P:cC)(f:au)(i bit less:Int)(m:ae AO)(K:AV×ae AO->Prop):Prop:=WC P f [.own 4, .int i] m λ aa m=>Yy P i bit less m K
section
variable{d n:Nat}{size code left:Int}{bs:ae bX}{ss ns:ae Int}{i bit less:Int}
theorem vk{f:au}(hc:fh (PQ W X hX (d+3)) f [.own 1, .int i] (zA ss ns) (Bj n zA))(E:mU 1 size code left bs.length)(l:1<=left)(hb:bs.length < 20000):gW (Mt (PQ W X hX (d+3)) f i bit less (pC size code left bs ss ns)) λ a=>zp n bs.length pC a.1 a.2:=
 .yq (fh.use (qQ:=[.own 4, .int i]) (M:=pC size code left bs ss ns) (I:=Bj n (pC size code left bs)) [3,4,5,6] hc rfl rfl rfl rfl λ v m j=>j.u (G:=λ v m=>Bj n (pC size code left bs) (el (eQ [3,4,5,6] 7) v) (upd (eQ [3,4,5,6] 7) [3,4,5,6] m (pC size code left bs ss ns))) λ ss ns B=>⟨ss,ns,rfl,rfl,B⟩) λ v m j=>j.u (G:=λ aa m=>gW (Yy (PQ W X hX (d+3)) i bit less m) λ a=>zp n bs.length pC a.1 a.2) λ ss ns B=>
  .eqv (R':=λ K=>WC (PQ W X hX (d+3)) 543 [.own 1] (pC size code left bs ss ns) λ aa m=>K (.none,m)) (λ K=>by kernel_rfl)
   (.yq (fh.use (qQ:=[.own 1]) (M:=pC size code left bs ss ns) (I:=zp n bs.length pC) [0,1,2] (Q4 (d:=d) E l hb) rfl rfl rfl rfl λ v m j=>N5.casesOn j λ s c l qS hv hm E h=>⟨s,c,l,qS,ss,ns,ah (el _) hv,ah (upd _ _ · _) hm,E,h,B⟩) λ v m j=> .ret (j.v▸j))
def putN(P:cC)(i bit size code left:Int)(bs:ae bX)(ss ns:ae Int)(less:Int)(K:AV×ae AO->Prop):Prop:=aY (bit==intAt ns i.toNat)
 (aY (decide (size - less>=32768)) (K (.none,pC (size - less) code left bs ss ns)) (aY (decide (size - less < less)) (Mt P 256 i bit less (pC less (code+(size - less)) left bs ss ns) K) (Mt P 256 i bit less (pC (size - less) code left bs ss ns) K)))
 (aY (decide (size - less>=less)) (Mt P 263 i bit less (pC less (code+(size - less)) left bs ss ns) K) (Mt P 263 i bit less (pC (size - less) code left bs ss ns) K))
theorem Qd(E:o_ size code left bs)(hb:bs.length < 20000)(p:NO n ss ns i)(l0:1<=less)(l1:less<=23314):gW (putN (PQ W X hX (d+3)) i bit size code left bs ss ns less) λ a=>zp n bs.length pC a.1 a.2:=
 have s0:=E.b.s0; have s1:=E.b.s1
 have n1:1<=size - less:=by omega
 have n2:size - less<=65536:=by omega
 have EA:mU 1 less (code+(size - less)) left bs.length:=E.b.turn l0 (aO l1 (by decide)) (Int.add_nonneg E.b.c0 (aO (by decide) n1)) (dV (by rw[Int.add_assoc,Int.sub_add_cancel]))
 have EB {lo:Int} (h:lo<=size - less):mU lo (size - less) code left bs.length:=E.b.turn h n2 E.b.c0 (Int.add_le_add_left (Int.sub_le_self _ (aO (by decide) l0)) _)
 .br (λ aa=> .S7 (λ q=> .ret ⟨size - less,code,left,bs,ss,ns,rfl,rfl,⟨EB q,E.l⟩,bq ..,p.B⟩) λ aa=> .S7 (λ aa=>vk (L4 (d:=d+1) p) EA E.l hb) λ aa=>vk (L4 (d:=d+1) p) (EB n1) E.l hb)
  λ aa=> .S7 (λ aa=>vk (LP (d:=d+1) p) EA E.l hb) λ aa=>vk (LP (d:=d+1) p) (EB n1) E.l hb
theorem Yz(E:o_ size code left bs)(hb:bs.length < 20000)(B:ke n ss ns)(h0:0<=i)(h1:i < n)(hn:n < 1000):fh (PQ W X hX (d+4)) 536 [.own 1, .own 4, .int i, .int bit] (pC size code left bs ss ns) (zp n bs.length pC):=
 have p:=B.p h0 h1 hn
 fh.go (P:=PQ W X hX (d+3)) tx su rfl rfl (R:=λ K=>need (cL i ss.length) (need (cL (intAt ss i.toNat) 114) (need (cL 0 (wR ss i).length) (need (cL i ns.length) (putN (PQ W X hX (d+3)) i bit size code left bs ss ns (intAt (wR ss i) (gN 0)) K))))) (λ K=>by kernel_rfl) (.nd p.b (.nd p.s (.nd (p.r.ix (by decide) (by decide)) (.nd p.c (Qd E hb p p.r.l0 p.r.l1)))))
end
end
section
variable{prog:aK}{w:bw}{W:WK prog w}{X:BM->Prop}{hX:∀G G',dC G G'->X G->X G'}
theorem o_.start:o_ 65536 0 11 []:=⟨⟨by decide,by decide,by decide,by decide,by decide,by decide,λ aa=>by decide⟩,by decide⟩
theorem KD{d:Nat}:fh (PQ W X hX (d+2)) 529 [.own 1] [.ns [] [], .inst 567 0] λ v m=>v= .none/\m=encM 65536 0 11 []:=
 fh.go (P:=PQ W X hX (d+1)) qO pU rfl rfl (R:=λ K=>jD 2 32768/\K (.none,encM 65536 0 11 [])) (λ K=>by kernel_rfl) (.and (L6 (by decide) (by decide)) (.ret ⟨rfl,rfl⟩))
inductive NP(code size:Int)(M:Int->ae AO)(v:AV)(m:ae AO):Prop
 |mk (c:Int) (hv:v= .none) (hm:m=M c) (h0:0<=c) (h1:c < code+size)
theorem NP.u{code size:Int}{M:Int->ae AO}{v:AV}{m:ae AO}{G:AV->ae AO->Prop}(h:NP code size M v m)(k:∀c,0<=c->c < code+size->G .none (M c)):G v m:=NP.casesOn (motive:=λ aa=>G v m) h λ c hv hm h0 h1=>hv▸hm▸k c h0 h1
def aaG(size code left top:Int)(bs:ae bX)(K:AV×ae AO->Prop):Prop:=
 jD 2 32768/\((2 * 32768:Int)≠0/\Int.natAbs (2 * 32768) < 1073741824)/\jD 2 32768/\jD top (2 * 32768)/\aY (decide (top * (2 * 32768) < code)) (K (.none,encM size (top * (2 * 32768)+32768) left bs)) (K (.none,encM size (top * (2 * 32768)) left bs))
theorem OF{d:Nat}{size code left:Int}{bs:ae bX}(h0:32768<=size)(h1:size<=65536)(h2:0<=code)(h3:code<=1000000000):
  fh (PQ W X hX (d+2)) 557 [.own 1] (encM size code left bs) (NP code size (encM size · left bs)):=
 have z:(code+size - 1).fdiv (2 * 32768)=(code+size - 1) / 65536:=i8 _ (by decide)
 have t:0<=(code+size - 1) / 65536/\(code+size - 1) / 65536 < 100000/\(code+size - 1) / 65536 * (2 * 32768) < code+size/\code - 32768<=(code+size - 1) / 65536 * (2 * 32768):=by omega
 fh.go (P:=PQ W X hX (d+1)) oF nU rfl rfl (R:=aaG size code left ((code+size - 1).fdiv (2 * 32768)) bs) (λ K=>by kernel_rfl)
  (z▸ .and (L6 (by decide) (by decide)) (.and ⟨by decide,by decide⟩ (.and (L6 (by decide) (by decide)) (.and (FI (pK (aO (by decide) t.1) (dk t.2.1 (by decide))))
   (.S7 (λ q=> .ret ⟨_,rfl,rfl,by omega,by omega⟩) λ q=> .ret ⟨_,rfl,rfl,rq t.1 (by decide),t.2.2.1⟩)))))
theorem bits_le{a b:Int}(h0:0<=a)(h:a < 268435456)(hb:b<=11):(Builtin.Int.intBits a:Int)+b<=2 ^ 27:=
 aO (rp (pH.mpr (pK (aO (by decide) h0) (dk h (by decide)))) hb) (by decide)
inductive NY(size code left:Int)(n:Nat)(σ:St):Prop
 |mk (bs:ae bX) (RT:σ=uM size code left bs) (e:n=bs.length) (h:bs.length < 100000)
inductive SN(size code left:Int)(r:Fl×St):Prop
 |mk (bs:ae bX) (hr:r=(.d7,uM size code left bs)) (h:bs.length < 100000)
theorem Mq{d:Nat}{size code left:Int}(n:Nat)(σ:St)(h:NY size code left n σ):gW (uA (fZ (PQ W X hX d)).run (fY (PQ W X hX d)).run σ) (WR (NY size code left) (SN size code left) n):=
 NY.casesOn (motive:=λ aa=>gW (uA (fZ (PQ W X hX d)).run (fY (PQ W X hX d)).run σ) (WR (NY size code left) (SN size code left) n)) h λ bs RT e h=>RT▸
  .eqv (R':=λ K=>aY (bs !=[]) (need ((-1:Int)= -1/\0 < bs.length) (aY (((bs.getLastD 0).toNat:Int)==0) ("bytearray.pop"="bytearray.pop"/\need (0 < bs.length/\bs.length < 1000000) (K (.inl (uM size code left bs.dropLast)))) (K (.inr (.d7,uM size code left bs))))) (K (.inr (.d7,uM size code left bs)))) (λ K=>by kernel_rfl)
   (.br (λ q=>
     have hl:0 < bs.length:=fQ.mpr (rI.mp q)
     have hd:bs.dropLast.length < bs.length:=FE▸Nat.sub_lt hl (by decide)
     .nd ⟨rfl,hl⟩ (.br (λ aa=> .and rfl (.nd ⟨hl,b9 h (by decide)⟩ (.ret ⟨bs.dropLast.length,e▸hd,_,rfl,rfl,b9 hd h⟩))) λ aa=> .ret ⟨bs,rfl,h⟩))
    λ aa=> .ret ⟨bs,rfl,h⟩)
def FinE(v:AV)(m:ae AO):Prop:=(∃l,v= .kq l/\l.length < 100000)/\∃(size code left:Int) (bs:ae bX),m=encM size code left bs
def zP(P:cC)(b:SS P cn)(m:ae AO)(K:AV×ae AO->Prop):Prop:=b.run ⟨[.own 1],m⟩ (iE λ v m=>K (v,m))
def TD(P:cC):SS P cn:=iH (Ff (Nv p0 (iR (Dw (eW 0 p0) 16 p0) qU) p0) p0) lC
def O2(P:cC):SS P cn:=iH (MM (fZ P) (fY P) p0) (TD P)
def O0(P:cC):SS P cn:=iH (MI (eW 0 p0) 14 p0 .LShift (x_ 8 p0) p0) (iH (Dc (Dy (eW 0 p0) 37 p0 qU p0) p0) (O2 P))
def fin2(P:cC):SS P cn:=iH (MI (eW 0 p0) 14 p0 .LShift (Dw (eW 0 p0) 15 p0) p0) (iH (Dc (Dy (eW 0 p0) 37 p0 qU p0) p0) (O0 P))
theorem O3{d:Nat}{size code left:Int}{bs:ae bX}(hb:bs.length < 100000):gW (zP (PQ W X hX d) (O2 (PQ W X hX d)) (encM size code left bs)) λ a=>FinE a.1 a.2:=
 .eqv (R':=λ K=>∃N,lR (fZ (PQ W X hX d)).run (fY (PQ W X hX d)).run N (uM size code left bs) (pD (TD (PQ W X hX d)) (iE λ v m=>K (v,m)))) (λ K=>by kernel_rfl)
  (.loop (gW.while Mq bs.length _ ⟨bs,rfl,rfl,hb⟩) λ r j=>SN.casesOn (motive:=λ aa=>gW (λ K=>pD (TD (PQ W X hX d)) (iE λ v m=>K (v,m)) r.1 r.2) λ a=>FinE a.1 a.2) j λ qS hr h=>hr▸
   .eqv (R':=λ K=>need (qS.length < 1000000) (K (.kq qS,encM size code left qS))) (λ K=>by kernel_rfl) (.nd (b9 h (by decide)) (.ret ⟨⟨_,rfl,h⟩,_,_,_,_,rfl⟩)))
theorem O1{d:Nat}{size code left:Int}{bs:ae bX}(h0:0<=code)(h1:code < 524288)(hb:bs.length < 50000):gW (zP (PQ W X hX (d+2)) (O0 (PQ W X hX (d+2))) (encM size code left bs)) λ a=>FinE a.1 a.2:=
 have h2:code * 2 ^ gN 8 < 134217728:=ya h1 (by decide:(0:Int) < 2 ^ gN 8)
 .eqv (R':=λ K=>((0:Int)<=8/\(Builtin.Int.intBits code:Int)+8<=2 ^ 27)/\WC (PQ W X hX (d+2)) 550 [.own 1] (encM size (code * 2 ^ gN 8) left bs) λ aa m=>zP (PQ W X hX (d+2)) (O2 (PQ W X hX (d+2))) m K) (λ K=>by kernel_rfl)
  (.and ⟨by decide,bits_le h0 (dk h1 (by decide)) (by decide)⟩ (.yq (Af (d:=d) (rq h0 (by decide)) (dk h2 (by decide)) (λ aa=>h2) (b9 hb (by decide))) λ v m j=>j.u (G:=λ aa m=>gW (zP (PQ W X hX (d+2)) (O2 (PQ W X hX (d+2))) m) λ a=>FinE a.1 a.2) λ qS hl=>
   O3 (hl▸b9 (rx hb 1) (by decide))))
theorem OZ{d:Nat}{size code left c:Int}{bs:ae bX}(E:o_ size code left bs)(h0:0<=c)(h1:c < code+size)(hb:bs.length < 20000):gW (zP (PQ W X hX (d+2)) (fin2 (PQ W X hX (d+2))) (encM size c left bs)) λ a=>FinE a.1 a.2:=
 have h2:=E.b.shift h1
 have cb:c < 268435456:=f9 (aO (dV (rt c).symm) (fB (xi (by decide):(0:Int) < 2 ^ left.toNat) h0)) h2.1
 .eqv (R':=λ K=>(0<=left/\(Builtin.Int.intBits c:Int)+left<=2 ^ 27)/\WC (PQ W X hX (d+2)) 550 [.own 1] (encM size (c * 2 ^ left.toNat) left bs) λ aa m=>zP (PQ W X hX (d+2)) (O0 (PQ W X hX (d+2))) m K) (λ K=>by kernel_rfl)
  (.and ⟨E.b.l0,bits_le h0 cb E.b.l1⟩ (.yq (Af (d:=d) (rq h0 (Int.pow_nonneg (by decide))) h2.1 h2.2 (b9 hb (by decide))) λ v m j=>j.u (G:=λ aa m=>gW (zP (PQ W X hX (d+2)) (O0 (PQ W X hX (d+2))) m) λ a=>FinE a.1 a.2) λ qS hl=>
   O1 (d:=d) (mj _ (by decide)) (j7 _ (by decide)) (hl▸b9 (rx hb 1) (by decide))))
theorem KO{d:Nat}{size code left:Int}{bs:ae bX}(E:o_ size code left bs)(hb:bs.length < 20000):fh (PQ W X hX (d+4)) 564 [.own 1] (encM size code left bs) FinE:=
 fh.go (P:=PQ W X hX (d+3)) qP pV rfl rfl (R:=λ K=>WC (PQ W X hX (d+3)) 557 [.own 1] (encM size code left bs) λ aa m=>zP (PQ W X hX (d+3)) (fin2 (PQ W X hX (d+3))) m K) (λ K=>by kernel_rfl)
  (.yq (OF (d:=d+1) E.b.s0 E.b.s1 E.b.c0 (aO (E.b.code (aO (by decide) E.b.s0)) (by decide))) λ v m j=>j.u (G:=λ aa m=>gW (zP (PQ W X hX (d+3)) (fin2 (PQ W X hX (d+3))) m) λ a=>FinE a.1 a.2) λ c h0 h1=>OZ (d:=d+1) E h0 h1 hb)
end
theorem p7:∀{m:ae AO} {i:Nat} {o:AO},bK m i=af o->i < m.length
 |[],_,_=>λ h=>cu h
 |_::_,0,_=>λ aa=>pt _
 |_::r,_+1,_=>λ h=>f5 (p7 (m:=r) h)
theorem mi:∀{m:ae AO} {i:Nat} {o:AO},bK m i=af o->bz m i o=m
 |[],_,_=>λ h=>cu h
 |v::r,0,o=>λ h=>ah (·::r) (ak h).symm
 |v::r,i+1,o=>λ h=>ah (v::·) (mi (m:=r) h)
theorem za{o:TO}:∀{t:ae TO},gR (t++[o]) t.length=af o
 |[]=>rfl
 |_::l=>za (t:=l)
theorem rZ{m:ae AO}{i:Nat}{o x:AO}(h:bK m i=af x):bK (bz m i o) i=af o:=iU (p7 h)
def xY:ae TO->Nat->Nat->aC
 |[],_,_=>true
 |_::r,0,q=>noQ r q
 |o::r,i+1,q=>PU (l9 o) q&&xY r i q
where
 PU (o:aq Nat) (q:Nat):aC:=match o with
  |some p=>!a_ p q
  |none=>true
 noQ:ae TO->Nat->aC
 |[],_=>true
 |o::r,q=>PU (l9 o) q&&noQ r q
theorem G1{o:aq Nat}{q:Nat}(h:xY.PU o q=true):o≠af q:=λ e=>ay ((ah (!·) (uD q)).symm.trans (e▸h:xY.PU (af q) q=true))
theorem Mb:∀{t:ae TO} {q:Nat},xY.noQ t q=true->∀i o,gR t i=af o->l9 o≠af q
 |[],_=>λ aa aa aa e=>cu e
 |x::r,q=>λ h i o=>match i with
  |0=>λ e=>ak e▸G1 (aG h).1
  |i+1=>Mb (aG h).2 i o
theorem GU:∀{t:ae TO} {k q:Nat},xY t k q=true->∀i o,i≠k->gR t i=af o->l9 o≠af q
 |[],_,_=>λ aa aa aa aa e=>cu e
 |x::r,0,q=>λ h i o n=>match i with
  |0=>bt rfl n
  |i+1=>Mb h i o
 |x::r,k+1,q=>λ h i o n=>match i with
  |0=>λ e=>ak e▸G1 (aG h).1
  |i+1=>GU (aG h).2 i o λ e=>n (ah rz e)
theorem J9{t:ae TO}{i q:Nat}{o:TO}(h:gR t i=af o)(hb:wy o=false)(hq:gR t q=af .ba):i≠q:=λ e=>ay ((ah wy (ak (h.symm.trans (e▸hq)))).symm.trans hb)
theorem GM.two{t:ae TO}{m:ae AO}(g:GM t m){i q:Nat}{o o₁:TO}{lY:AO}{bs:ae bX}(h:gR t i=af o)(hb:wy o=false)(hq:gR t q=af .ba)(hl:xY t i q=true)
  (h1:GO (bz (bz m i lY) q (.ba bs)) o₁ lY) (he:∀p,l9 o₁=af p->p=q):GM (qV t i o₁) (bz (bz m i lY) q (.ba bs)):=
 have X_:=J9 h hb hq
 have same {j:Nat} (a:j≠i) (b:j≠q):bK (bz (bz m i lY) q (.ba bs)) j=bK m j:=(dT b).trans (dT a)
 ⟨(sZ ..).trans (g.len.trans ((fF ..).trans (fF ..)).symm),
  λ j x hj=>o0 hj (λ z y=>z.symm▸y.symm▸⟨lY,(dT X_).trans (iU (g.len▸qf h)),h1⟩) λ n hj=>(d0 (j=q)).elim
   (λ y=>⟨.ba bs,y.symm▸iU ((fF ..).symm▸g.len▸qf hq),(ak (hq.symm.trans (y▸hj)):TO.ba=x)▸⟨bs,rfl⟩⟩)
   λ nq=>(g.get j x hj).imp λ o'=> .imp (same n nq).trans (GO.frame · λ p hp=>same (g.nq h hb j x p hj hp) λ e=>GU hl j x n hj (e▸hp)),
  λ j x p hj hp=>o0 hj (λ aa y=>(he p (y▸hp)).symm▸(lq X_.symm).trans hq) λ n hj=>(lq (g.nq h hb j x p hj hp)).trans (g.enc j x p hj hp)⟩
theorem GM.Tn{t:ae TO}{m:ae AO}(g:GM t m){i q L:Nat}{o:TO}{lY:AO}(h:gR t i=af o)(hb:wy o=false)(hq:gR t q=af .ba)(h1:GO m (.enc q L) lY):GM (qV t i (.enc q L)) (bz m i lY):=
 have X_:=(J9 h hb hq).symm
 ⟨(sZ ..).trans (g.len.trans (fF ..).symm),
  λ j x hj=>o0 hj (λ z y=>z.symm▸y.symm▸⟨lY,iU (g.len▸qf h),h1.frame λ p hp=>dT ((ak hp:q=p)▸X_)⟩)
   λ n hj=>(g.get j x hj).imp λ o'=> .imp (dT n).trans (GO.frame · λ p hp=>dT (g.nq h hb j x p hj hp)),
  λ j x p hj hp=>o0 hj (λ aa y=>(ak (y▸hp:l9 (.enc q L)=af p):q=p)▸(lq X_).trans hq) λ n hj=>(lq (g.nq h hb j x p hj hp)).trans (g.enc j x p hj hp)⟩
noncomputable def abZ(o:TO):aq {c:Nat×Nat // o= .enc c.1 c.2}:=match o with
 | .enc q L=>af ⟨(q,L),rfl⟩
 |_=>none
def Vf(C:au)(t:TV)(tm:ae TO):aq {c:Nat×Nat // t= .ex (.own c.1)/\gR tm c.1=af (.inst C c.2)}:=
 ob (nK t) λ p=>jK (gR tm p.1) λ o ho=>ob (G3 o) λ c=>dE (jl c.1.1 C) λ h=>af ⟨(p.1,c.1.2),p.2,ho.trans (ah af (h▸c.2))⟩
structure Bn(tm:ae TO)(e je q L:Nat):Prop where
 i:gR tm e=af (.inst 567 je)
 o:gR tm je=af (.enc q L)
structure VW(m:ae AO)(e je q:Nat)(size code left:Int)(bs:ae bX):Prop where
 i:bK m e=af (.inst 567 je)
 o:bK m je=af (.ns [13,14,15,16] [.int size, .int code, .int left, .own q])
 b:bK m q=af (.ba bs)
 E:o_ size code left bs
def Y7(t:TV)(tm:ae TO):aq {c:Nat×Nat×Nat×Nat // t= .ex (.own c.1)/\Bn tm c.1 c.2.1 c.2.2.1 c.2.2.2}:=
 ob (Vf 567 t tm) λ e=>jK (gR tm e.1.2) λ o ho=>ob (abZ o) λ c=>af ⟨(e.1.1,e.1.2,c.1.1,c.1.2),e.2.1,e.2.2,ho.trans (ah af c.2)⟩
theorem GM.inst{tm:ae TO}{m:ae AO}(gm:GM tm m){i j:Nat}{C:au}(h:gR tm i=af (.inst C j)):bK m i=af (.inst C j):=(gm.at h).elim λ aa z=>z.1.trans (ah af z.2)
theorem Bn.u{tm:ae TO}{m:ae AO}{e je q L:Nat}(A:Bn tm e je q L)(gm:GM tm m){Q:Prop}(k:∀size code left bs,VW m e je q size code left bs->bs.length<=L->Q):Q:=
 (gm.at A.o).elim λ o z=>aD z.2 λ size y=>y.elim λ code y=>y.elim λ left y=>y.elim λ bs y=>k size code left bs ⟨gm.inst A.i,z.1.trans (ah af y.1),y.2.1,y.2.2.1⟩ y.2.2.2
def VE(lo hi:Int)(n:Nat)(o:TO):Prop:=∀m x,GO m o x->∃r,x= .il r/\r.length=n/\∀y∈r,lo<=y/\y<=hi
theorem VE.nb{lo hi:Int}{n:Nat}{o:TO}(h:VE lo hi n o):wy o=false:=by
 cases e:wy o
 ·rfl
 ·exact(h [] (.ba []) (GA e▸⟨[],rfl⟩)).elim λ r e=>AO.noConfusion e.1
def Yg(lo hi:Int)(o:TO):aq {n:Nat // VE lo hi n o}:=
 ob (Uw o) λ c=>dE (p:=lo<=c.1.2.1/\c.1.2.2<=hi) inferInstance λ h=>af ⟨c.1.1,λ m x g=>(c.2.go m x g).imp λ r=> .imp_right<| .imp_right λ a y hy=>(a y hy).imp (aO h.1) (aO · h.2)⟩
def T6(o:TO):aq {c:Nat×Nat // o= .ns [0,1] [.ex (.own c.1), .ex (.own c.2)]}:=match o with
 | .ns ks vs=>dE (nO ks [0,1]) λ h=>ob (QX vs) λ c=>ob (nK c.1.1) λ s=>ob (nK c.1.2) λ n=>af ⟨(s.1,n.1),(ah (TO.ns · vs) h).trans (ah (TO.ns [0,1]) (c.2.trans (congr (ah A7 s.2) (ah (λ y=>[y]) n.2))))⟩
 |_=>none
structure FN(tm:ae TO)(f jb s n k:Nat):Prop where
 i:gR tm f=af (.inst 245 jb)
 o:gR tm jb=af (.ns [0,1] [.ex (.own s), .ex (.own n)])
 s:∃o,gR tm s=af o/\VE 0 113 k o
 n:∃o,gR tm n=af o/\VE 0 1 k o
structure VU(m:ae AO)(f jb s n k:Nat)(ss ns:ae Int):Prop where
 i:bK m f=af (.inst 245 jb)
 o:bK m jb=af (.ns [0,1] [.own s, .own n])
 s:bK m s=af (.il ss)
 n:bK m n=af (.il ns)
 B:ke k ss ns
def act(t:TV)(tm:ae TO):aq {c:Nat×Nat×Nat×Nat×Nat // t= .ex (.own c.1)/\FN tm c.1 c.2.1 c.2.2.1 c.2.2.2.1 c.2.2.2.2}:=
 ob (Vf 245 t tm) λ f=>jK (gR tm f.1.2) λ o ho=>ob (T6 o) λ z=>jK (gR tm z.1.1) λ os hs=>jK (gR tm z.1.2) λ on hn=>ob (Yg 0 113 os) λ ks=>ob (Yg 0 1 on) λ kn=>dE (jl kn.1 ks.1) λ h=>
  af ⟨(f.1.1,f.1.2,z.1.1,z.1.2,ks.1),f.2.1,f.2.2,ho.trans (ah af z.2),⟨os,hs,ks.2⟩,⟨on,hn,h▸kn.2⟩⟩
theorem GM.cL{tm:ae TO}{m:ae AO}(gm:GM tm m){i n:Nat}{lo hi:Int}(h:∃o,gR tm i=af o/\VE lo hi n o){Q:Prop}(k:∀r,bK m i=af (.il r)->r.length=n->(∀y∈r,lo<=y/\y<=hi)->Q):Q:=
 h.elim λ o h=>(gm.at h.1).elim λ x z=>(h.2 m x z.2).elim λ r y=>k r (z.1.trans (ah af y.1)) y.2.1 y.2.2
theorem S5{x:Int}(h:0<=x/\x<=1):x=0\/x=1:=(s_ h.2).imp (λ l=>eY (HN l) h.1) id
theorem FN.u{tm:ae TO}{m:ae AO}{f jb s n k:Nat}(A:FN tm f jb s n k)(gm:GM tm m){Q:Prop}(kk:∀ss ns,VU m f jb s n k ss ns->Q):Q:=
 gm.cL A.s λ ss h1 l1 b1=>gm.cL A.n λ ns h2 l2 b2=>(gm.at A.o).elim λ o z=>aD z.2 λ us y=>(dD.u2 y.2 (Q:=λ us=>o= .ns [0,1] us->o= .ns [0,1] [.own s, .own n]) λ u v (e1:u= .own s) (e2:v= .own n) e=>e1▸e2▸e) y.1|>λ e=>
  kk ss ns ⟨gm.inst A.i,z.1.trans (ah af e),h1,h2,l1,l2,λ x hx=>(b1 x hx).imp id Int.lt_add_one_of_le,λ x hx=>S5 (b2 x hx)⟩
theorem mG{l:ae Nat}(h:l.Nodup)(i j:Nat){x y:Nat}(hi:l[i]?=af x)(hj:l[j]?=af y)(n:a_ i j=false):x≠y:=λ e=>pI n ((nQ (jp hi) h).mp (hi.trans ((ah af e).trans hj.symm)))
def Mv(tm:ae TO)(je q L s n k:Nat):ae Out:=[(.ex .none,qV (qV (qV tm je (.enc q (L+15))) s (.zX k 0 113)) n (.zX k 0 1))]
def Yu(ts:ae TV)(tm:ae TO):aq (ae Out):=ob (KR ts) λ T=>ob (Y7 T.1.1 tm) λ e=>ob (act T.1.2.1 tm) λ f=>jK (l6 T.1.2.2.1) λ i aa=>ob (tI T.1.2.2.2) λ aa=>
 nB (bB f.1.2.2.2.2 999&&(decide (0<=i.1/\i.2 < (f.1.2.2.2.2:Int))&&(bB e.1.2.2.2 19000&&(xY tm e.1.2.1 e.1.2.2.1&&sT [e.1.2.1,e.1.1,e.1.2.2.1,f.1.2.1,f.1.1,f.1.2.2.1,f.1.2.2.2.1] tm.length))))
  (af (Mv tm e.1.2.1 e.1.2.2.1 e.1.2.2.2 f.1.2.2.1 f.1.2.2.2.1 f.1.2.2.2.2))
section
variable{prog:aK}{w:bw}{W:WK prog w}{X:BM->Prop}{hX:∀G G',dC G G'->X G->X G'}
section
variable{m:ae AO}{e je q f jb s n k:Nat}{size code left iv bv:Int}{bs:ae bX}{ss ns:ae Int}
theorem UH(A:VW m e je q size code left bs)(B:VU m f jb s n k ss ns)(sel:sT [je,e,q,jb,f,s,n] m.length=true)(hb:bs.length < 20000)(h0:0<=iv)(h1:iv < k)(hn:k < 1000):
  fh (PQ W X hX 4) 536 [.own e, .own f, .int iv, .int bv] m λ v m'=>zp k bs.length (λ size code left bs ss ns=>bz (bz (bz (bz m je (.ns [13,14,15,16] [.int size, .int code, .int left, .own q])) q (.ba bs)) s (.il ss)) n (.il ns)) v m':=
 have N:=(qB sel).1
 fh.at [je,e,q,jb,f,s,n] (Yz (W:=W) (X:=X) (hX:=hX) (d:=0) (i:=iv) (bit:=bv) A.E hb B.B h0 h1 hn) rfl sel rfl (bV A.o<|bV A.i<|bV A.b<|bV B.o<|bV B.i<|bV B.s<|bV B.n<|rfl) λ v m' j=>by
  rcases j with⟨mJ,lx,ra,qS,U_,A4,rfl,rfl,E',l',B'⟩
  have a1:bz (bz m je (.ns [13,14,15,16] [.int mJ, .int lx, .int ra, .own q])) e (.inst 567 je)=bz m je (.ns [13,14,15,16] [.int mJ, .int lx, .int ra, .own q]):=mi ((dT (mG N 1 0 rfl rfl rfl)).trans A.i)
  have a2:bz (bz (bz m je (.ns [13,14,15,16] [.int mJ, .int lx, .int ra, .own q])) q (.ba qS)) jb (.ns [0,1] [.own s, .own n])=bz (bz m je (.ns [13,14,15,16] [.int mJ, .int lx, .int ra, .own q])) q (.ba qS):=mi ((dT (mG N 3 2 rfl rfl rfl)).trans ((dT (mG N 3 0 rfl rfl rfl)).trans B.o))
  have a3:bz (bz (bz m je (.ns [13,14,15,16] [.int mJ, .int lx, .int ra, .own q])) q (.ba qS)) f (.inst 245 jb)=bz (bz m je (.ns [13,14,15,16] [.int mJ, .int lx, .int ra, .own q])) q (.ba qS):=mi ((dT (mG N 4 2 rfl rfl rfl)).trans ((dT (mG N 4 0 rfl rfl rfl)).trans B.i))
  exact⟨rfl,mJ,lx,ra,qS,U_,A4,rfl,(bQ _).trans ((ah (λ x=>bz (bz (bz (bz (bz x q (.ba qS)) jb (.ns [0,1] [.own s, .own n])) f (.inst 245 jb)) s (.il U_)) n (.il A4)) a1).trans
   ((ah (λ x=>bz (bz (bz x f (.inst 245 jb)) s (.il U_)) n (.il A4)) a2).trans (ah (λ x=>bz (bz x s (.il U_)) n (.il A4)) a3))),E',l',B'⟩
end
theorem UI{tm:ae TO}{m:ae AO}{e je q L f jb s n k:Nat}{iv bv:Int}(gm:GM tm m)(A:Bn tm e je q L)(B:FN tm f jb s n k)(lo:xY tm je q=true)(sel:sT [je,e,q,jb,f,s,n] tm.length=true)(hL:L<=19000)(h0:0<=iv)(h1:iv < k)(hn:k<=999):
  DW (PQ W X hX 4) 536 [.own e, .own f, .int iv, .int bv] m (Mv tm je q L s n k):=
 A.u gm λ size code left bs E lb=>B.u gm λ ss ns B'=>have N:=(qB sel).1
  (UH (W:=W) (X:=X) (hX:=hX) (bv:=bv) E B' (gm.len▸sel) (aS (aF lb hL) (by decide)) h0 h1 (Nat.lt_succ_of_le hn)).elim λ v z=>z.elim λ m' z=>by
   obtain⟨j,z⟩:=z
   rcases j with⟨mJ,lx,ra,qS,U_,A4,rfl,rfl,E',l',B1⟩
   have hq:=gm.enc _ _ q A.o rfl
   have t1:=gm.two (o₁:= .enc q (L+15)) (lY:= .ns [13,14,15,16] [.int mJ, .int lx, .int ra, .own q]) (bs:=qS) A.o rfl hq lo ⟨mJ,lx,ra,qS,rfl,rZ ((dT (mG N 2 0 rfl rfl rfl)).trans E.b),E',aF l' (fC lb 15)⟩ λ p hp=>(ak hp).symm
   exact B.s.elim λ os hs=>B.n.elim λ on RP=>⟨.none,_,⟨_,aZ.mpr rfl,rfl,GM.set (GM.set t1 (o₁:= .zX k 0 113) (lY:= .il U_) ((lq (mG N 5 0 rfl rfl rfl)).trans hs.1) hs.2.nb ⟨U_,rfl,B1.s,λ x hx=>(B1.so x hx).imp id HN⟩ (.inl rfl))
    (o₁:= .zX k 0 1) (lY:= .il A4) ((lq (mG N 6 5 rfl rfl rfl)).trans ((lq (mG N 6 0 rfl rfl rfl)).trans RP.1)) RP.2.nb ⟨A4,rfl,B1.n,λ x hx=>(B1.no x hx).elim (λ e=>⟨dV e.symm,aO (dV e) (by decide)⟩) λ e=>⟨aO (by decide) (dV e.symm),dV e⟩⟩ (.inl rfl)⟩,z⟩
theorem dD.u4{a b c d:TV}{us:ae AV}{Q:ae AV->Prop}(h:dD [a,b,c,d] us)(k:∀u v w x,GV a u->GV b v->GV c w->GV d x->Q [u,v,w,x]):Q us:=
 h.uc λ u aa g1 h=>h.uc (Q:=λ r=>Q (u::r)) λ v aa g2 h=>h.u2 (Q:=λ r=>Q (u::v::r)) λ w x g3 g4=>k u v w x g1 g2 g3 g4
theorem Qa{ts:ae TV}{tm:ae TO}{outs:ae Out}(h:Yu ts tm=af outs){vs:ae AV}{m:ae AO}(gv:dD ts vs)(gm:GM tm m):DW (PQ W X hX 4) 536 vs m outs:=
 ob.u h λ T aa h=>ob.u h λ e aa h=>ob.u h λ f aa h=>jK.u h λ i hi h=>ob.u h λ b aa h=>nB.u h λ hc h=>
  have c1:=aG hc; have c2:=aG c1.2; have c3:=aG c2.2; have c4:=aG c3.2; have ci:=a4 c2.1
  dD.u4 (T.2▸gv:dD [T.1.1,T.1.2.1,T.1.2.2.1,T.1.2.2.2] vs) (Q:=λ vs=>DW (PQ W X hX 4) 536 vs m outs) λ u v x y g1 g2 g3 g4=>(ll g1 e.2.1).symm▸(ll g2 f.2.1).symm▸l6.u hi g3 (Q:=λ x=>DW (PQ W X hX 4) 536 [.own e.1.1, .own f.1.1,x,y] m outs) λ iv i0 i1=>(b.2 y g4).elim λ bv eb=>eb.symm▸
   ak h▸UI gm e.2.2 f.2.2 c4.1 c4.2 (aP c3.1) (aO ci.1 i0) (f9 i1 ci.2) (aP c1.1)
end
def Do(r:ae Int):Int:=(intAt r 1 * 39373+7).fmod 2147483647
def Ft(r:ae Int)(top:Int):Int:=aY (decide (0 < intAt r 0)) ((intAt r 0).fmod top) ((((Do r * Do r).fmod 2147483629).fdiv 32).fmod top)
def gh(r:ae Int)(top:Int):ae Int:=[aY (decide (0 < intAt r 0)) ((intAt r 0).fdiv top) (intAt r 0),aY (decide (0 < intAt r 0)) (intAt r 1) (Do r)]
theorem B2(a:Int){top:Int}(h:0 < top):0<=a.fmod top/\a.fmod top<=top - 1:=
 (i9 a (eT h)).symm▸⟨mj a (jh h),i_ (j7 a h)⟩
theorem Ks{α:Type}{b:aC}{x y:α}{Q:α->Prop}(h:Q x)(k:Q y):Q (aY b x y):=by
 cases b
 ·exact k
 ·exact h
theorem m9(r:ae Int){top:Int}(h:0 < top):0<=Ft r top/\Ft r top<=top - 1:=Ks (Q:=λ x=>0<=x/\x<=top - 1) (B2 _ h) (B2 _ h)
section
variable{prog:aK}{w:bw}{W:WK prog w}{X:BM->Prop}{hX:∀G G',dC G G'->X G->X G'}{j:aC}{cB:xI}
theorem qq{i:Nat}{e:mx}(h:FT[i]?=af e)(h0:e.dm=0){d:Nat}{vs:ae AV}{m:ae AO}{I:AV->ae AO->Prop}(hl:vs.length=e.xs.length)(r:gW (λ K=>(e.b (PV W X hX (d+1) j cB)).run ⟨fill e.ct.aR vs,m⟩ (iE λ v m=>K (v,m))) λ a=>I a.1 a.2):
  fh (PV W X hX (d+2) j cB) e.f vs m I:=
 have he:=dy h
 (zI W (X:=X) (hX:=hX) (d:=d+1) (j:=j) (cB:=cB) (dx FL (dx FJ he))).elim λ dv z=>
  (h0▸z.1 (λ aa=>none) []:bI (λ aa=>none) [] (BP 0) dv).u0 (Q:=λ dv=>FnAt (PV W X hX (d+1) j cB) e.ct e.f e.xs dv (e.b (PV W X hX (d+1) j cB)).bA->fh (PV W X hX (d+2) j cB) e.f vs m I)
   (λ h2=>fh.fn (P:=PV W X hX (d+1) j cB) h2 (da:=[]) (λ aa aa=>bI.nil) (bj.mp (JC W) e he) (Ra he) hl ((bQ vs).symm▸r)) z.2
theorem Fq{d:Nat}{x y top:Int}(h:0 < top)(h2:top < 1000000):fh (PV W X hX (d+2) j cB) 865 [.own 0, .int top] [.il [x,y]] λ v m=>v= .int (Ft [x,y] top)/\m=[.il (gh [x,y] top)]:=by
 refine qq (i:=52) rfl rfl rfl ?_
 conv=>enter [1,K]; whnf
 refine gW.S7 (λ q=>?_) λ q=>?_
 ·have q':decide (0 < intAt [x,y] 0)=true:=cy q
  conv=>enter [1,K]; whnf
  refine gW.and (by omega) ?_
  conv=>enter [1,K]; whnf
  refine gW.and ⟨by omega,by omega⟩ ?_
  conv=>enter [1,K]; whnf
  refine gW.ret ⟨?_,?_⟩
  ·unfold Ft; rw[q']; rfl
  ·unfold gh; rw[q']; rfl
 ·have q':decide (0 < intAt [x,y] 0)=false:=dh q
  conv=>enter [1,K]; whnf
  refine gW.and (yR (by decide) (by decide)) ?_
  conv=>enter [1,K]; whnf
  refine gW.and (by decide) ?_
  conv=>enter [1,K]; whnf
  have hm:0<=Do [x,y]/\Do [x,y] < 2147483647:=by
   unfold Do
   rw[i9 _ (by decide)]
   exact⟨mj _ (by decide),j7 _ (by decide)⟩
  refine gW.and (show jD (Do [x,y]) (Do [x,y]) from L6 (by omega) (by omega)) ?_
  conv=>enter [1,K]; whnf
  refine gW.and (by decide) ?_
  conv=>enter [1,K]; whnf
  refine gW.and ⟨by decide,by decide⟩ ?_
  conv=>enter [1,K]; whnf
  refine gW.and (by omega) ?_
  conv=>enter [1,K]; whnf
  refine gW.ret ⟨?_,?_⟩
  ·unfold Ft; rw[q']; rfl
  ·unfold gh; rw[q']; rfl
def WU(r:ae Int)(top:Int)(s:ae TO):aq (ae Out):=
 aY (decide (top=1)) (af [(.ex (.int 0),s)]) (aY (decide (top=2)) (af [(.ex (.int 0),s),(.ex (.int 1),s)]) (aY (decide (top=3)) (af [(.ex (.int 0),s),(.ex (.int 1),s),(.ex (.int 2),s)])
 (aY (decide (top=4)) (af [(.ex (.int 0),s),(.rg 1 3,s)]) (aY (decide (top=5)) (af [(.nr (Ft r top) 0 4,s)]) none))))
theorem Aa{o:Out}{l:ae Out}{P:Out->Prop}(h:P o):∃x,x∈o::l/\P x:=⟨o,aW,h⟩
theorem CC{o:Out}{l:ae Out}{P:Out->Prop}(h:∃x,x∈l/\P x):∃x,x∈o::l/\P x:=h.imp λ aa=> .imp_left (aQ _)
theorem Nm{v n:Int}(h:v<=n):v=n\/v<=n - 1:=(s_ h).symm.imp id i_
theorem Ky{p:Prop}[fA p]{α:Type}{x y:aq α}{r:α}{Q:Prop}(h:aY (decide p) x y=af r)(k:p->x=af r->Q)(k':y=af r->Q):Q:=condB h (λ e=>k (a4 e)) λ aa=>k'
abbrev DgR(r:ae Int)(top:Int)(s:ae TO)(outs:ae Out):Prop:=(0 < top/\top < 1000000)/\∃o,o∈outs/\GV o.1 (.int (Ft r top))/\o.2=s
theorem OP{r:ae Int}{top:Int}{s:ae TO}{outs:ae Out}(h:WU r top s=af outs):DgR r top s outs:=by
 refine Ky h (λ e h=>?_) λ h=>Ky h (λ e h=>?_) λ h=>Ky h (λ e h=>?_) λ h=>Ky h (λ e h=>?_) λ h=>Ky h (λ e h=>?_) λ h=>cu h
 all_goals subst e; refine ak h▸⟨⟨by decide,by decide⟩,?_⟩
 ·have c:=m9 r (top:=1) (by decide)
  exact Aa ⟨ah AV.int (eY c.2 c.1),rfl⟩
 ·have c:=m9 r (top:=2) (by decide)
  exact(Nm c.2).elim (λ e=>CC (Aa ⟨ah AV.int e,rfl⟩)) λ k=>Aa ⟨ah AV.int (eY k c.1),rfl⟩
 ·have c:=m9 r (top:=3) (by decide)
  exact(Nm c.2).elim (λ e=>CC (CC (Aa ⟨ah AV.int e,rfl⟩))) λ k=>(Nm k).elim (λ e=>CC (Aa ⟨ah AV.int e,rfl⟩)) λ k=>Aa ⟨ah AV.int (eY k c.1),rfl⟩
 ·have c:=m9 r (top:=4) (by decide)
  exact(s_ c.1).elim (λ l=>CC (Aa ⟨⟨_,rfl,HM l,c.2⟩,rfl⟩)) λ e=>Aa ⟨ah AV.int e.symm,rfl⟩
 ·exact Aa ⟨⟨rfl,m9 r (by decide)⟩,rfl⟩
theorem abL{α:Type}:∀{l:ae α},a_ l.length 2=true->∃x y,l=[x,y]
 |[x,y],_=>⟨x,y,rfl⟩
def Sb(ts:ae TV)(tm:ae TO):aq (ae Out):=ob (QX ts) λ T=>ob (nK T.1.1) λ p=>ob (lg T.1.2) λ top=>jK (gR tm p.1) λ o ho=>ob (oIx o) λ r=>bE (a_ r.1.length 2) λ aa=>WU r.1 top.1 (qV tm p.1 (.ix (gh r.1 top.1)))
theorem QP{tm:ae TO}{m:ae AO}(gm:GM tm m){p:Nat}{r:ae Int}{top:Int}(hl:a_ r.length 2=true)(ho:gR tm p=af (.ix r)){outs:ae Out}(D:DgR r top (qV tm p (.ix (gh r top))) outs):DW (PV W X hX 2 j cB) 865 [.own p, .int top] m outs:=
 have m1:bK m p=af (.il r):=(gm.at ho).elim λ aa z=>z.1.trans (ah af z.2)
 have E:fh (PV W X hX 2 j cB) 865 [.own p, .int top] m λ v m'=>v= .int (Ft r top)/\m'=bz m p (.il (gh r top)):=(abL hl).elim λ x z=>z.elim λ y e=>by
  subst e
  exact fh.use [p] (Fq (W:=W) (X:=X) (hX:=hX) (j:=j) (cB:=cB) (d:=0) D.1.1 D.1.2) rfl (cz.mpr ⟨cY (gm.len▸qf ho),rfl⟩) rfl (bV m1 rfl) λ v m' k=>⟨ah (el (eQ [p] m.length)) k.1,(ah (upd (eQ [p] m.length) [p] · m) k.2).trans (bQ _)⟩
 E.elim λ v z=>z.elim λ m' z=>D.2.elim λ o y=>⟨v,m',⟨o,y.1,z.1.1▸y.2.1,y.2.2▸z.1.2▸gm.set (o:= .ix r) ho rfl rfl (.inl rfl)⟩,z.2⟩
theorem Mn{ts:ae TV}{tm:ae TO}{outs:ae Out}(h:Sb ts tm=af outs){vs:ae AV}{m:ae AO}(gv:dD ts vs)(gm:GM tm m):DW (PV W X hX 2 j cB) 865 vs m outs:=
 ob.u h λ T aa h=>ob.u h λ p aa h=>ob.u h λ top aa h=>jK.u h λ o ho h=>ob.u h λ r aa h=>bE.u h λ hl h=>dD.v2 T.2 gv (Q:=λ vs=>DW (PV W X hX 2 j cB) 865 vs m outs) λ u v g1 g2=>(ll g1 p.2).symm▸(ll g2 top.2).symm▸QP gm hl (ho.trans (ah af r.2)) (OP h)
theorem fh.fz{P:cC}{f:au}{dr:ae AV}{mem:ae AO}{I I':AV->ae AO->Prop}(h:fh P f dr mem I)(k:∀v m,I v m->∃r,ND mem.length v m=af r/\I' r.1 r.2):fh P f dr mem I':=by
 obtain⟨v,m,i,z⟩:=h
 obtain⟨r,e,i'⟩:=k v m i
 exact⟨r.1,r.2,i',WC.fz (z.mono λ v' m' q=>⟨r,q.1.symm▸q.2.symm▸e,rfl,rfl⟩)⟩
noncomputable def KW{α:Type}:ae α->Nat->aq α
 |a::_,0=>af a
 |_::r,i+1=>KW r i
 |[],_=>none
theorem ti.at{α:Type}{P:α->AV->Prop}:∀{C:ae α} {cs:ae AV} {i:Nat} {r:α},ti P C cs->KW C i=af r->P r (fy cs i)/\i < cs.length
 |[],_,_,_=>λ aa e=>cu e
 |_::_,_,0,_=>λ h e=>h.elim λ c h=>h.elim λ t h=>h.1▸⟨ak e▸h.2.1,pt _⟩
 |_::_,_,i+1,_=>λ h e=>h.elim λ c h=>h.elim λ t h=>h.1▸(ti.at (i:=i) h.2.2 e).imp id f5
theorem ti.eQ{α:Type}{P:α->AV->Prop}{f:Nat->Nat}(k:∀r c,P r c->el f c=c):∀{C:ae α} {cs:ae AV},ti P C cs->ei f cs=cs
 |[],_=>λ h=>(show _=[] from h)▸rfl
 |_::_,_=>λ h=>h.elim λ c h=>h.elim λ t h=>h.1▸(ah (·::ei f t) (k _ c h.2.1)).trans (ah (c::·) (ti.eQ k h.2.2))
theorem HY.eQ{α:Type}{P:ae α->ae AV->Prop}{f:Nat->Nat}(k:∀{r c},P r c->ei f c=c)(r:ae α)(v:AV)(h:HY P r v):el f v=v:=h.elim λ c h=>h.1▸ah AV.lst (k h.2)
theorem FO.eQ{f:Nat->Nat}(r:ae Int)(c:AV)(h:FO r c):el f c=c:=h.elim (λ e=>e▸rfl) λ e=>e.1▸rfl
theorem uZ.eQ{f:Nat->Nat}{R:ae (ae (ae (ae Int)))}{ps:ae AV}(h:uZ R ps):ei f ps=ps:=ti.eQ (HY.eQ (ti.eQ (HY.eQ (ti.eQ FO.eQ)))) h
theorem mY.eQ{f:Nat->Nat}{R:ae (ae (ae (ae Int)))}{g:AV}(h:mY R g):el f g=g:=h.elim λ ps h=>h.1▸ah (λ l=>AV.inst 812 [28,29] [.int 4, .lst l]) (uZ.eQ h.2)
theorem EL{n:Int}(h:zZ n=true):0<=n/\n < 4611686018427387904:=a4 h
theorem RK{d:Nat}{R:ae (ae (ae (ae Int)))}{g:AV}(hg:mY R g){p x y:Int}(hp:zZ p=true)(hx:zZ x=true)(hy:zZ y=true){L:ae (ae (ae Int))}{C:ae (ae Int)}{r:ae Int}(e1:KW R p.toNat=af L)(e2:KW L y.toNat=af C)(e3:KW C x.toNat=af r):
  fh (PV W X hX (d+2) j cB) 802 [g, .int p, .int x, .int y] [] λ v m=>v= .row r/\m=[]:=by
 obtain⟨ps,rfl,hP⟩:=hg
 obtain⟨⟨ls,a1,hL⟩,b1⟩:=hP.at e1
 obtain⟨⟨cs,a2,hC⟩,b2⟩:=hL.at e2
 obtain⟨hc,b3⟩:=hC.at e3
 have hp:=EL hp
 have hx:=EL hx
 have hy:=EL hy
 refine fh.fz (I:=λ v m=>(v= .row r/\m=[])\/(r=[0,0,0,0]/\v= .own 1/\m=[.lst [.int 0], .il [0,0,0,0]])) ?_ λ v m k=>?_
 ·refine qq (i:=47) rfl rfl rfl ?_
  conv=>enter [1,K]; whnf
  refine gW.nd ⟨hp.1,by omega,hp.2⟩ ?_
  conv=>enter [1,K]; rw[a1]; whnf
  refine gW.nd ⟨hy.1,by omega,hy.2⟩ ?_
  conv=>enter [1,K]; rw[a2]; whnf
  refine gW.nd ⟨hx.1,by omega,hx.2⟩ ?_
  rcases hc with e|⟨e,rfl⟩
  ·conv=>enter [1,K]; rw[e]; whnf
   exact gW.ret (.inl ⟨rfl,rfl⟩)
  ·conv=>enter [1,K]; rw[e]; whnf
   exact gW.ret (.inr ⟨rfl,rfl,rfl⟩)
 ·rcases k with⟨rfl,rfl⟩|⟨rfl,rfl,rfl⟩
  ·exact⟨(.row r,[]),rfl,rfl,rfl⟩
  ·exact⟨(.row [0,0,0,0],[]),rfl,rfl,rfl⟩
def Yt(ts:ae TV)(tm:ae TO):aq (ae Out):=ob (KR ts) λ T=>ob (tGr T.1.1) λ R=>ob (lg T.1.2.1) λ p=>ob (lg T.1.2.2.1) λ x=>ob (lg T.1.2.2.2) λ y=>bE (zZ p.1&&(zZ x.1&&zZ y.1)) λ aa=>jK (KW R.1 p.1.toNat) λ L hL=>jK (KW L y.1.toNat) λ C hC=>jK (KW C x.1.toNat) λ r hr=>af [(.ex (.row r),tm)]
theorem TQ{tm:ae TO}{m:ae AO}(gm:GM tm m){g:AV}{p x y:Int}{r:ae Int}(D:fh (PV W X hX 2 j cB) 802 [g, .int p, .int x, .int y] [] λ v m=>v= .row r/\m=[])(hg:∀f,el f g=g):DW (PV W X hX 2 j cB) 802 [g, .int p, .int x, .int y] m [(.ex (.row r),tm)]:=
 have E:fh (PV W X hX 2 j cB) 802 [g, .int p, .int x, .int y] m λ v m'=>v= .row r/\m'=m:=fh.use [] D (ah (λ g=>[g,AV.int p, .int x, .int y]) (hg _).symm) rfl rfl rfl λ v m' k=>⟨ah (el (eQ [] m.length)) k.1,(ah (upd (eQ [] m.length) [] · m) k.2).trans (bQ _)⟩
 E.elim λ v z=>z.elim λ m' z=>⟨v,m',⟨_,aZ.mpr rfl,z.1.1,z.1.2▸gm⟩,z.2⟩
theorem P_{ts:ae TV}{tm:ae TO}{outs:ae Out}(h:Yt ts tm=af outs){vs:ae AV}{m:ae AO}(gv:dD ts vs)(gm:GM tm m):DW (PV W X hX 2 j cB) 802 vs m outs:=
 ob.u h λ T aa h=>ob.u h λ R aa h=>ob.u h λ p aa h=>ob.u h λ x aa h=>ob.u h λ y aa h=>bE.u h λ hb h=>jK.u h λ L hL h=>jK.u h λ C hC h=>jK.u h λ r hr h=>
  have b1:=aG hb; have b2:=aG b1.2
  dD.u4 (T.2▸gv:dD [T.1.1,T.1.2.1,T.1.2.2.1,T.1.2.2.2] vs) (Q:=λ vs=>DW (PV W X hX 2 j cB) 802 vs m outs) λ u v w z g1 g2 g3 g4=>have g1:mY R.1 u:=(R.2▸g1:GV (.gr R.1) u)
   (ll g2 p.2).symm▸(ll g3 x.2).symm▸(ll g4 y.2).symm▸ak h▸TQ gm (RK (W:=W) (X:=X) (hX:=hX) (j:=j) (cB:=cB) (d:=0) g1 b1.1 b2.1 b2.2 hL hC hr) λ aa=>g1.eQ
def TA:xI:=λ f ts tm=>aY (a_ f 865) (Sb ts tm) (aY (a_ f 802) (Yt ts tm) none)
theorem OY{f:au}{ts:ae TV}{tm:ae TO}{outs:ae Out}(h:TA f ts tm=af outs){vs:ae AV}{m:ae AO}(gv:dD ts vs)(gm:GM tm m):DW (PV W X hX 2 j cB) f vs m outs:=
 condB h (λ q h=>(aL q).symm▸Mn h gv gm) λ aa h=>condB h (λ q h=>(aL q).symm▸P_ h gv gm) λ aa h=>cu h
end
def XB(o:TO):aq {u:e7 // o= .ns [] []}:=match o with
 | .ns [] []=>af ⟨(),rfl⟩
 |_=>none
def Sa(ts:ae TV)(tm:ae TO):aq (ae Out):=ob (yU ts) λ t=>ob (Vf 567 t.1 tm) λ e=>jK (gR tm e.1.2) λ o ho=>ob (XB o) λ aa=>nB (sT [e.1.2,e.1.1] tm.length) (af [(.ex .none,qV (tm++[.ba]) e.1.2 (.enc tm.length 0))])
def Ys(ts:ae TV)(tm:ae TO):aq (ae Out):=ob (yU ts) λ t=>ob (Y7 t.1 tm) λ e=>nB (bB e.1.2.2.2 19000&&(xY tm e.1.2.1 e.1.2.2.1&&sT [e.1.2.1,e.1.1,e.1.2.2.1] tm.length)) (af [(.Ju 100000,qV tm e.1.2.1 (.ns [13,14,15,16] [.ai, .ai, .ai, .ex (.own e.1.2.2.1)]))])
theorem r3:∀{m l:ae AO} {i:Nat} {o x:AO},bK m i=af x->bz (m++l) i o=bz m i o++l
 |[],_,_,_,_=>λ h=>cu h
 |v::r,l,0,o,x=>λ h=>rfl
 |v::r,l,i+1,o,x=>λ h=>ah (v::·) (r3 (m:=r) h)
section
variable{prog:aK}{w:bw}{W:WK prog w}{X:BM->Prop}{hX:∀G G',dC G G'->X G->X G'}{tm:ae TO}{m:ae AO}{e je q L:Nat}
theorem Pk(gm:GM tm m)(hi:gR tm e=af (.inst 567 je))(ho:gR tm je=af (.ns [] []))(sel:sT [je,e] tm.length=true):DW (PQ W X hX 4) 529 [.own e] m [(.ex .none,qV (tm++[.ba]) je (.enc tm.length 0))]:=
 have N:=(qB sel).1
 have m1:=gm.inst hi
 have m2:bK m je=af (.ns [] []):=(gm.at ho).elim λ o z=>aD z.2 λ us y=>z.1.trans (ah af (y.1.trans (ah (AO.ns []) (show us=[] from y.2))))
 have D:fh (PQ W X hX 4) 529 [.own e] m λ v m'=>v= .none/\m'=bz m je (.ns [13,14,15,16] [.int 65536, .int 0, .int 11, .own m.length])++[.ba []]:=
  fh.use [je,e] (KD (W:=W) (X:=X) (hX:=hX) (d:=2)) rfl (gm.len▸sel) rfl (bV m2<|bV m1<|rfl) λ v m' j=>⟨ah (el (eQ [je,e] m.length)) j.1,(ah (upd (eQ [je,e] m.length) [je,e] · m) j.2).trans
   (ah (·++[AO.ba []]) (mi ((dT (mG N 1 0 rfl rfl rfl)).trans m1):bz (bz m je (.ns [13,14,15,16] [.int 65536, .int 0, .int 11, .own m.length])) e (.inst 567 je)=_))⟩
 D.elim λ v z=>z.elim λ m' z=>⟨v,m',⟨_,aZ.mpr rfl,z.1.1,z.1.2.symm▸r3 m2▸GM.Tn (gm.app (o:= .ba) (o':= .ba []) ⟨[],rfl⟩ rfl) (i:=je) (q:=tm.length) (L:=0) (o:= .ns [] []) (w_ ho) rfl za
  ⟨65536,0,11,[],gm.len▸rfl,gm.len▸p8,o_.start,cE _⟩⟩,z.2⟩
theorem TE(gm:GM tm m)(A:Bn tm e je q L)(lo:xY tm je q=true)(sel:sT [je,e,q] tm.length=true)(hL:L<=19000):DW (PQ W X hX 4) 564 [.own e] m [(.Ju 100000,qV tm je (.ns [13,14,15,16] [.ai, .ai, .ai, .ex (.own q)]))]:=
 have N:=(qB sel).1
 A.u gm λ size code left bs E lb=>
  have D:fh (PQ W X hX 4) 564 [.own e] m λ v m'=>(∃l,v= .kq l/\l.length < 100000)/\∃(size code left:Int) (bs:ae bX),m'=bz (bz m je (.ns [13,14,15,16] [.int size, .int code, .int left, .own q])) q (.ba bs):=
   fh.use [je,e,q] (KO (W:=W) (X:=X) (hX:=hX) (d:=0) E.E (aS (aF lb hL) (by decide))) rfl (gm.len▸sel) rfl (bV E.o<|bV E.i<|bV E.b<|rfl) λ v m' j=>⟨j.1.imp λ l y=>⟨ah (el (eQ [je,e,q] m.length)) y.1,y.2⟩,
    j.2.imp λ size=> .imp λ code=> .imp λ left=> .imp λ bs y=>(ah (upd (eQ [je,e,q] m.length) [je,e,q] · m) (show _=encM size code left bs from y)).trans ((bQ _).trans (ah (bz · q (AO.ba bs)) (mi ((dT (mG N 1 0 rfl rfl rfl)).trans E.i):bz (bz m je (.ns [13,14,15,16] [.int size, .int code, .int left, .own q])) e (.inst 567 je)=_)))⟩
  D.elim λ v z=>z.elim λ m' z=>z.1.1.elim λ l y=>z.1.2.elim λ size k=>k.elim λ code k=>k.elim λ left k=>k.elim λ bs k=>⟨v,m',⟨_,aZ.mpr rfl,⟨l,y.1,eU y.2⟩,k.symm▸gm.two A.o rfl (gm.enc _ _ q A.o rfl) lo
   ⟨_,rfl, .cons ⟨size,rfl⟩ (.cons ⟨code,rfl⟩ (.cons ⟨left,rfl⟩ (.cons rfl rfl)))⟩ λ p hp=>cu hp⟩,z.2⟩
theorem Mm{ts:ae TV}{outs:ae Out}(h:Sa ts tm=af outs){vs:ae AV}(gv:dD ts vs)(gm:GM tm m):DW (PQ W X hX 4) 529 vs m outs:=
 ob.u h λ t aa h=>ob.u h λ e aa h=>jK.u h λ o ho h=>ob.u h λ z aa h=>nB.u h λ hc h=>dD.v1 t.2 gv (Q:=λ vs=>DW (PQ W X hX 4) 529 vs m outs) λ v g=>(ll g e.2.1).symm▸ak h▸Pk gm e.2.2 (ho.trans (ah af z.2)) hc
theorem P9{ts:ae TV}{outs:ae Out}(h:Ys ts tm=af outs){vs:ae AV}(gv:dD ts vs)(gm:GM tm m):DW (PQ W X hX 4) 564 vs m outs:=
 ob.u h λ t aa h=>ob.u h λ e aa h=>nB.u h λ hc h=>have c1:=aG hc; have c2:=aG c1.2; dD.v1 t.2 gv (Q:=λ vs=>DW (PQ W X hX 4) 564 vs m outs) λ v g=>(ll g e.2.1).symm▸ak h▸TE gm e.2.2 c2.1 c2.2 (aP c1.1)
def Tz:xI:=λ f ts tm=>aY (a_ f 536) (Yu ts tm) (aY (a_ f 529) (Sa ts tm) (aY (a_ f 564) (Ys ts tm) none))
theorem OX{f:au}{ts:ae TV}{tm:ae TO}{outs:ae Out}(h:Tz f ts tm=af outs){vs:ae AV}{m:ae AO}(gv:dD ts vs)(gm:GM tm m):DW (PQ W X hX 4) f vs m outs:=
 condB h (λ q h=>(aL q).symm▸Qa h gv gm) λ aa h=>condB h (λ q h=>(aL q).symm▸Mm h gv gm) λ aa h=>condB h (λ q h=>(aL q).symm▸P9 h gv gm) λ aa h=>cu h
end
section
variable{prog:aK}{w:bw}(W:WK prog w)(X:BM->Prop)(hX:∀G G',dC G G'->X G->X G')(j:aC)
def lK:Nat->xI
 |0=>bP
 |n+1=>λ f ts tm=>oe (aY (j&&fK 0 n) (Tz f ts tm) none) (oe (TA f ts tm) (KM (PV W X hX (2 * n+1) j (lK n)) FT f ts tm))
def PN(n:Nat):cC:=PV W X hX (2 * n+1) j (lK W X hX j n)
theorem qr:∀n,lT (PN W X hX j n)
 |0=>λ aa aa aa aa h=>cu h
 |n+1=>λ f ts tm outs h vs m gv gm=>oe.v (h:oe (aY (j&&fK 0 n) (Tz f ts tm) none) (oe (TA f ts tm) (KM (PV W X hX (2 * n+1) j (lK W X hX j n)) FT f ts tm))=af outs)
  (λ k=>condB k (λ q k=>have q:=aG q; DW.le (P:=PQ W X hX 4) (Q:=(PN W X hX j (n+1)).dn) ⟨rfl,rfl,(fC (jB 2 (mz q.2)) 2:2 * 1+2<=2 * n+2), .inr q.1.symm,λ aa h=>h⟩ (OX (W:=W) (X:=X) (hX:=hX) k gv gm)) λ aa k=>cu k)
  λ k=>oe.v k (λ k=>DW.le (P:=PV W X hX 2 j bP) (Q:=(PN W X hX j (n+1)).dn) ⟨rfl,rfl,(Nat.le_add_left 2 (2 * n):2<=2 * n+2), .inr rfl,λ aa h=>h⟩ (OY (W:=W) (X:=X) (hX:=hX) k gv gm))
   λ k=>DW.le (P:=(PN W X hX j n).up) (Q:=(PN W X hX j (n+1)).dn) ⟨rfl,rfl,(cE _:2 * n+2<=2 * n+2), .inr rfl,λ aa h=>h⟩ (Gp (W:=W) (X:=X) (hX:=hX) (j:=j) (cB:=lK W X hX j n) (d:=2 * n) (P:=PN W X hX j n) rfl (qr n) (λ aa h=>h) k gv gm)
end
theorem s9.eQ(f:Nat->Nat):∀{us:ae AV},s9 us->ei f us=us
 |[]=>λ aa=>rfl
 |v::r=>λ h=>h.1.elim λ i e=>(ah (·::ei f r) (e.symm▸rfl:el f v=v)).trans (ah (v::·) (s9.eQ f h.2))
structure gX(P:cC)(IV sc:AV)(ks:ae (ae Int))(us:ae AV)(sz:Int):Prop where
 i:s9 us
 it:∃v xu qg r0 r1,s9 xu/\xu.length=ks.length/\s9 qg/\qg.length=ks.length/\WC P 640 [sc, .int 2, .own 0] [.bG ks us] (λ v' m=>v'=v/\m= .bG ks xu::r0)/\WC P 49 [IV,v] (.bG ks xu::r0) (λ v' m=>v'= .int sz/\m= .bG ks qg::r1)
def allI:(ts:ae TV)->aq {u:e7 // ∀us,dD ts us->s9 us}
 |[]=>af ⟨(),λ us g=>g.u0 (Q:=s9) trivial⟩
 |t::r=>ob (tI t) λ x=>ob (allI r) λ y=>af ⟨(),λ us g=>g.uc (Q:=s9) λ u v g1 g2=>⟨x.2 _ g1,y.2 _ g2⟩⟩
abbrev VZ(ks:ae (ae Int))(m:ae AO):Prop:=∃us r,m= .bG ks us::r/\s9 us/\us.length=ks.length
theorem TL{ks xt:ae (ae Int)}{ts:ae TV}{r:ae TO}(h:xt=ks)(x:∀us,dD ts us->s9 us)(l:ts.length=ks.length):∀m,GM (.bG xt ts::r) m->VZ ks m
 |[],g=>(g.get 0 _ rfl).elim λ aa z=>cu z.1
 |b::m,g=>(g.get 0 _ rfl).elim λ o z=>aD z.2 λ us y=>⟨us,m,ah (·::m) ((ak z.1).trans (y.1.trans (ah (AO.bG · us) h))),x _ y.2,y.2.len.trans l⟩
def Xa(ks:ae (ae Int))(t:ae TO):aq {u:e7 // ∀m,GM t m->VZ ks m}:=match t with
 | .bG xt ts::r=>dE (nO xt ks) λ h=>ob (allI ts) λ x=>bE (a_ ts.length ks.length) λ hl=>af ⟨(),TL h x.2 (aL hl)⟩
 |_=>none
noncomputable def YZ(l:ae Out):aq {c:Out // l=[c]}:=match l with
 |[c]=>af ⟨c,rfl⟩
 |_=>none
def Sm(f:xI)(sc iv:TV)(ks:ae (ae Int))(ts:ae TV):aq e7:=ob (allI ts) λ aa=>ob (f 640 [sc, .ex (.int 2), .ex (.own 0)] [.bG ks ts]) λ outs=>ob (YZ outs) λ c=>ob (f 49 [iv,c.1.1] c.1.2) λ outs=>ob (YZ outs) λ e=>ob (tI e.1.1) λ aa=>ob (Xa ks c.1.2) λ aa=>ob (Xa ks e.1.2) λ aa=>af ()
theorem DW.one{P:cC}{f:au}{vs:ae AV}{m:ae AO}{outs:ae Out}{c:Out}(h:DW P f vs m outs)(e:outs=[c]){Q:Prop}(k:∀v m',GV c.1 v->GM c.2 m'->WC P f vs m (λ v' Uq=>v'=v/\Uq=m')->Q):Q:=
 h.elim λ v h=>h.elim λ m' h=>h.1.elim λ o z=>have eo:o=c:=aZ.mp (e▸z.1); k v m' (eo▸z.2.1) (eo▸z.2.2) h.2
theorem TS{o:TO}{o':AO}(h:GO [o'] o o')(e:l9 o=none):GM [o] [o']:=
 ⟨rfl,λ i x=>match i with
  |0=>λ q=>⟨o',rfl,ak q▸h⟩
  |_+1=>λ q=>cu q,λ i x p=>match i with
  |0=>λ q hq=>cu (e.symm.trans (ak q▸hq))
  |_+1=>λ q=>cu q⟩
section
variable{prog:aK}{w:bw}{W:WK prog w}{X:BM->Prop}{hX:∀G G',dC G G'->X G->X G'}
theorem QE{n:Nat}{sc iv:TV}{ks:ae (ae Int)}{ts:ae TV}{us:ae AV}{scv IV:AV}(h:Sm (lK W X hX true n) sc iv ks ts=af ())(gs:GV sc scv)(gi:GV iv IV)(g0:dD ts us):∃sz,gX (PN W X hX true n).dn IV scv ks us sz:=
 ob.u h λ hI aa h=>ob.u h λ outs e1 h=>ob.u h λ c aa h=>ob.u h λ ad5 e2 h=>ob.u h λ e aa h=>ob.u h λ hi aa h=>ob.u h λ a1 aa h=>ob.u h λ a2 aa aa=>
  (qr W X hX true n _ _ _ _ e1 [scv, .int 2, .own 0] [.bG ks us] (.cons gs (.cons rfl (.cons rfl rfl))) (TS (o:= .bG ks ts) ⟨us,rfl,g0⟩ rfl)).one c.2 λ v' m' gv gm z1=>
  (qr W X hX true n _ _ _ _ e2 [IV,v'] m' (.cons gi (.cons gv rfl)) gm).one e.2 λ u Uq gu gm2 z2=>(hi.2 u gu).elim λ sz ez=>(a1.2 _ gm).elim λ xu y=>y.elim λ r0 y=>(a2.2 _ gm2).elim λ qg x=>x.elim λ r1 x=>
   ⟨sz,hI.2 _ g0,v',xu,qg,r0,r1,y.2.1,y.2.2,x.2.1,x.2.2,y.1▸z1,y.1▸x.1▸ez▸z2⟩
end
theorem MA:∀(c a k:Nat),eQ.go (gM a c) (a+c) k=a+k
 |0,a,k=>rfl
 |c+1,a,0=>rfl
 |c+1,a,k+1=>(ah (λ n=>eQ.go (gM (a+1) c) n k) (cT a 1 c:a+1+c=a+c+1).symm).trans ((MA c (a+1) k).trans (cT a 1 k))
theorem Qf(i c L:Nat):eQ (i::gM L c) (L+c)=eQ [i] L:=funext λ k=>match k with
 |0=>rfl
 |k+1=>MA c L k
theorem sI{o:AO}:∀{A B:ae AO} {j:Nat},A.length<=j->∃B',bz (A++B) j o=A++B'
 |[],_,_=>λ aa=>⟨_,rfl⟩
 |_::_,_,0=>λ h=>bt h (ja _)
 |a::A,B,j+1=>λ h=>(sI (A:=A) (B:=B) (k5 h)).imp λ aa=>ah (a::·)
theorem ze{f:Nat->Nat}{A:ae AO}:∀(sel:ae Nat) (mem B:ae AO),(∀j∈sel,A.length<=j)->∃B',upd f sel mem (A++B)=A++B'
 |j::sel,o::r,B=>λ h=>(sI (h j aW)).elim λ B1 e=>(ze sel r B1 λ k hk=>h k (aQ _ hk)).imp λ B' e'=>(ah (upd f sel r) e).trans e'
 |[],r,B=>λ aa=>⟨_,gO ..⟩
 |_::_,[],B=>λ aa=>⟨B,rfl⟩
theorem sJ{a b:AO}:∀{M:ae AO} {i:Nat},bz (bz M i a) i b=bz M i b
 |[],_=>rfl
 |_::_,0=>rfl
 |v::M,i+1=>ah (v::·) (sJ (M:=M) (i:=i))
theorem ME{L c j:Nat}(h:j∈gM L c):L<=j:=(List.mem_range'.mp h).elim λ k z=>z.2▸bq _ _
theorem UR{L c k j:Nat}(h:(gM L c)[k]?=af j):j=L+k:=
 ak (h.symm.trans ((List.getElem?_range' (io (jp h) Ja:k < c)).trans (ah (λ n=>af (L+n)) (HS k))))
inductive Rf(P:cC)(IV sc:AV)(ks:ae (ae Int))(sz:Int)(M:ae AO)(i:Nat):Prop
 |mk (k:AV) (xu qg:ae AV) (r0 r1:ae AO) (q1:s9 xu) (l1:xu.length=ks.length) (q2:s9 qg) (l2:qg.length=ks.length) (w1:WC P 640 [sc, .int 2, .own i] M λ v m=>v=k/\m=bz M i (.bG ks xu)++r0) (w2:WC P 49 [IV,k] (bz M i (.bG ks xu)++r0) λ v m=>v= .int sz/\m=bz M i (.bG ks qg)++r1)
theorem gX.use{P:cC}{IV sc:AV}{ks:ae (ae Int)}{us:ae AV}{sz:Int}(h:gX P IV sc ks us sz){M:ae AO}{i:Nat}(hi:bK M i=af (.bG ks us))(cs:∀f,el f sc=sc)(cI:∀f,el f IV=IV):Rf P IV sc ks sz M i:=by
 rcases h with⟨hI,v,xu,qg,r0,r1,q1,l1,q2,l2,z1,z2⟩
 have cl {us:ae AV} (h:s9 us):la (eQ [i] M.length) (.bG ks us)= .bG ks us:=ah (AO.bG ks) (h.eQ _)
 have e1:WC P 640 [sc, .int 2, .own i] M λ v' m=>v'=el (eQ [i] M.length) v/\m=bz M i (.bG ks xu)++upd.IY (eQ [i] M.length) r0:=
  WC.Fx [i] z1 (ah (λ s=>[s,AV.int 2, .own i]) (cs _).symm) (cz.mpr ⟨cY (p7 hi),rfl⟩) rfl (bV (hi.trans (ah af (cl hI).symm)) rfl) ⟨rfl,ah (λ o=>bz M i o++upd.IY (eQ [i] M.length) r0) (cl q1)⟩
 rw[sQ] at e1
 have L1:(bz M i (.bG ks xu)).length=M.length:=fF ..
 have L2:(bz M i (.bG ks xu)++r0.map (la (eQ [i] M.length))).length=M.length+r0.length:=bh.trans (congr (ah _ L1) (bJ _))
 have er:eQ (i::gM M.length r0.length) (bz M i (.bG ks xu)++r0.map (la (eQ [i] M.length))).length=eQ [i] M.length:=(ah _ L2).trans (Qf i _ _)
 have e2:=WC.BS z2 (i::gM M.length r0.length) (bz M i (.bG ks xu)++r0.map (la (eQ [i] M.length))) (dS.mpr ⟨λ q=>fj _ (ff (p7 hi) (ME q)),List.nodup_range'⟩) (ah rz Ja) λ k j ao h1 h2=>er.symm▸(match k,h1,h2 with
  |0,h1,h2=>ak h1▸ak h2▸((dA (L1.symm▸p7 hi)).trans ((eI _ _).symm.trans ((rZ hi).trans (ah af (cl q1).symm))))
  |k+1,h1,h2=>(UR h1).symm▸(eL (L1.symm▸bq _ _)).trans ((ah (λ n=>(r0.map (la (eQ [i] M.length)))[n]?) ((ah (M.length+k - ·) L1).trans (hN ..))).trans (eM.trans (ah (e6 _) h2))))
 rw[er] at e2
 refine(ze (f:=eQ [i] M.length) (A:=bz M i (.bG ks qg)) (gM M.length r0.length) r1 (r0.map (la (eQ [i] M.length))) λ j hj=>(fF ..).symm▸ME hj).elim λ r1' er'=>?_
 exact⟨_,xu,qg,_,r1',q1,l1,q2,l2,e1,(ah (λ s=>[s,el (eQ [i] M.length) v]) (cI (eQ [i] M.length)):ei (eQ [i] M.length) [IV,v]=_)▸e2.mono λ u m z=>z.elim λ av z=>z.elim λ m' z=>⟨z.2.1.trans (ah (el _) z.1.1),z.2.2.1.trans ((ah (upd _ _ · _) z.1.2).trans
  ((ah (upd _ _ r1) ((r3 (rZ hi)).trans (congr (ah _ (sJ.trans (ah (bz M i) (cl q2)))) rfl))).trans er'))⟩⟩
noncomputable def acg:TV:= .rw [(-2,2),(-2,2),(-2,2),(-2,2)]
def vM(r:ae Int):Prop:=qZ [(-2,2),(-2,2),(-2,2),(-2,2)] r
noncomputable def cpV(i a:Int):AV:= .inst 713 [19,20,21,22] [.int i, .int a, .int 1, .int 0]
def ju(a:Int)(two:aC)(wd:Int):AV:= .inst 779 [23,24,25,26,27,9] [.any, .int 8, .int 2, .int wd, .lst (aY two [cpV 1 a,cpV 2 1] [cpV 1 a]), .int 2]
noncomputable def jx(pl dc ac:ae Int)(a b:Int):AV:= .inst 847 [30,31,32,33,11,34,4] [.row pl, .row dc, .row ac, .int a, .int b, .int 0, .int 0]
noncomputable def C9(two:aC)(n0 n1:Nat):ae (ae Int):=(eu n0).map (λ(x:Nat)=>[(0:Int),(x:Int),0])++aY two ((eu n1).map λ(x:Nat)=>[(1:Int),(x:Int),0]) []
noncomputable def og(two:aC)(n0 n1:Nat)(rows:ae (ae Int)):AV:= .bG (C9 two n0 n1) (rows.map AV.row)
noncomputable def q5(c:aC×ae Int):AV:=aY c.1 (.row c.2) .none
noncomputable def n9{α:Type}(two:aC)(n0:Nat)(l:ae α):ae (ae (ae α)):=aY two [[l.take n0],[l.drop n0]] [[l]]
def sA(two:aC)(n0:Nat)(cs:ae (aC×ae Int)):AV:= .inst 812 [28,29] [.int 4, .lst ((n9 two n0 (cs.map q5)).map λ p=> .lst (p.map AV.lst))]
def Gu(two:aC)(n0 n1:Nat)(cs:ae (aC×ae Int)):AV:= .tup [sA two n0 cs,og two n0 n1 (cs.map (·.2))]
def YG(s:ae Int):ae Int:=[Ft s 5 - 2,Ft (gh s 5) 5 - 2,Ft (gh (gh s 5) 5) 5 - 2,Ft (gh (gh (gh s 5) 5) 5) 5 - 2]
def acq(s:ae Int):ae Int:=gh (gh (gh (gh s 5) 5) 5) 5
def Q3:Nat->ae Int->ae (ae (aC×ae Int)×ae Int)
 |0,s=>[([],s)]
 |n+1,s=>(Q3 n (gh s 4)).map (λ p=>((false,[0,0,0,0])::p.1,p.2))++(Q3 n (acq (gh s 4))).map (λ p=>((true,YG (gh s 4))::p.1,p.2))
theorem Sv(s:ae Int): -2<=Ft s 5 - 2/\Ft s 5 - 2<=2:=by
 have h:=m9 s (top:=5) (by decide)
 omega
theorem Qo(s:ae Int):vM (YG s):=⟨_,_,rfl,(Sv _).1,(Sv _).2,_,_,rfl,(Sv _).1,(Sv _).2,_,_,rfl,(Sv _).1,(Sv _).2,_,_,rfl,(Sv _).1,(Sv _).2,rfl⟩
theorem Qn:vM [0,0,0,0]:=⟨_,_,rfl,by decide,by decide,_,_,rfl,by decide,by decide,_,_,rfl,by decide,by decide,_,_,rfl,by decide,by decide,rfl⟩
def ny(c:aC×ae Int):Prop:=vM c.2/\(c.1=false->c.2=[0,0,0,0])
structure Wb(n:Nat)(p:ae (aC×ae Int)×ae Int):Prop where
 n:p.1.length=n
 l:p.2.length=2
 c:∀c∈p.1,ny c
theorem AG:∀(n:Nat) (s:ae Int),s.length=2->∀p∈Q3 n s,Wb n p
 |0,s,hs,p,hp=>aZ.mp hp▸⟨rfl,hs,sk⟩
 |n+1,s,hs,p,hp=>(fJ.mp hp).elim
   (λ hp=>(dM.mp hp).elim λ q z=>have y:=AG n _ rfl q z.1; z.2▸⟨ah (·+1) y.n,y.l,all2 ⟨Qn,λ aa=>rfl⟩ y.c⟩)
   λ hp=>(dM.mp hp).elim λ q z=>have y:=AG n _ rfl q z.1; z.2▸⟨ah (·+1) y.n,y.l,all2 ⟨Qo _,λ e=>nomatch e⟩ y.c⟩
theorem S9:∀{c:aC×ae Int},ny c->q5 c= .row c.2\/q5 c= .none/\c.2=[0,0,0,0]
 |(true,_),_=> .inl rfl
 |(false,_),h=> .inr ⟨rfl,h.2 rfl⟩
theorem u6:∀{cs:ae (aC×ae Int)},(∀c∈cs,ny c)->zl (cs.map (·.2)) (cs.map q5)
 |[],_=>rfl
 |c::r,h=>⟨_,_,rfl,S9 (h c aW),u6 λ d hd=>h d (aQ _ hd)⟩
theorem zV{two:aC}{n0:Nat}{cs:ae (aC×ae Int)}(h:∀c∈cs,ny c):mY (n9 two n0 (cs.map (·.2))) (sA two n0 cs):=by
 refine⟨_,rfl,?_⟩
 cases two with
 |false=>exact⟨_,_,rfl,⟨_,rfl,⟨_,_,rfl,⟨_,rfl,u6 h⟩,rfl⟩⟩,rfl⟩
 |true=>
  have e1:(cs.map (·.2)).take n0=(cs.take n0).map (·.2):=List.map_take.symm
  have e2:(cs.map (·.2)).drop n0=(cs.drop n0).map (·.2):=List.map_drop.symm
  have e3:(cs.map q5).take n0=(cs.take n0).map q5:=List.map_take.symm
  have e4:(cs.map q5).drop n0=(cs.drop n0).map q5:=List.map_drop.symm
  refine⟨_,_,rfl,⟨_,rfl,⟨_,_,rfl,⟨_,rfl,?_⟩,rfl⟩⟩,_,_,rfl,⟨_,rfl,⟨_,_,rfl,⟨_,rfl,?_⟩,rfl⟩⟩,rfl⟩
  ·show zl ((cs.map (·.2)).take n0) ((cs.map q5).take n0)
   rw[e1,e3]; exact u6 λ c hc=>h c (FG hc)
  ·show zl ((cs.map (·.2)).drop n0) ((cs.map q5).drop n0)
   rw[e2,e4]; exact u6 λ c hc=>h c (FF hc)
theorem DW.src{P:cC}{f:au}{vs:ae AV}{m:ae AO}{outs:ae Out}(h:DW P f vs m outs){α:Type}{l:ae α}{g:α->AV}{k:α->ae Int}(e:outs=l.map λ a=>(.ex (g a),[.ix (k a)])):∃a∈l,WC P f vs m λ v m'=>v=g a/\m'=[.il (k a)]:=
 h.elim λ v h=>h.elim λ m' h=>h.1.elim λ o ho=>(dM.mp (show o∈l.map λ a=>((.ex (g a),[.ix (k a)]):Out) from e▸ho.1)).elim λ a ha=>⟨a,ha.1,h.2.mono λ v' Uq z=>
  have gv:GV (.ex (g a)) v:=(ah (GV ·.1 v) ha.2).mpr ho.2.1
  have gm:GM [.ix (k a)] m':=(ah (GM ·.2 m') ha.2).mpr ho.2.2
  ⟨z.1.trans gv,z.2.trans ((gm.get 0 _ rfl).elim λ o q=>(DA.mp gm.len.symm).elim λ a ea=>ea.trans (ah (λ x=>[x]) ((ak ((ah (bK · 0) ea).symm.trans q.1)).trans q.2)))⟩⟩
theorem GM.src(r:ae Int):GM [.ix r] [.il r]:=⟨rfl,(λ i o e=>match i,e with
 |0,e=>ak e▸⟨_,rfl,rfl⟩),(λ i o q e hq=>match i,e with
 |0,e=>nomatch (ah l9 (ak e)).trans hq)⟩
section
variable{prog:aK}{w:bw}{W:WK prog w}{X:BM->Prop}{hX:∀G G',dC G G'->X G->X G'}{x y:Int}
noncomputable def iY:ae (Int×aC×Int):=[(1,false,2),(1,false,4),(1,true,2),(1,true,4),(2,false,2),(2,false,4),(2,true,2),(2,true,4)]
theorem O7:lK W X hX false 5 872 [.ex (.own 0)] [.ix [x,y]]=af (iY.map λ c=>(.ex (ju c.1 c.2.1 c.2.2),[.ix (gh (gh (gh [x,y] 2) 2) 2)])):=by kernel_rfl
noncomputable def bg(c:Int×aC×Int):Nat×Nat:=(aY (c.1==1&&c.2.2==2) 1 2,aY c.2.1 (aY (c.1==1&&c.2.2==4) 2 1) 0)
theorem TC:(iY.map λ c=>ob (lK W X hX false 5 877 [.ex (.own 0), .ex (ju c.1 c.2.1 c.2.2)] [.ix [x,y]]) (ZQ 1))=iY.map λ c=>af ((Q3 ((bg c).1+(bg c).2) [x,y]).map λ p=>(.ex (Gu c.2.1 (bg c).1 (bg c).2 p.1),[.ix p.2])):=by kernel_rfl
noncomputable abbrev t8:=ae Int×ae Int×ae Int×Int×Int
noncomputable def t8.v(c:t8):AV:=jx c.1 c.2.1 c.2.2.1 c.2.2.2.1 c.2.2.2.2
def U1(s:ae Int):ae (t8×ae Int):=[
 (([0],[0],[0],1,3),gh (gh (gh s 2) 1) 2),(([0],[0],[1],1,3),gh (gh (gh s 2) 1) 2),
 (([0],[0],[0],0,0),gh (gh (gh (gh s 2) 2) 1) 2),(([0],[1],[0],0,0),gh (gh (gh (gh s 2) 2) 1) 2),
 (([0],[0],[0],0,0),gh (gh (gh s 2) 2) 2),(([0],[1],[0],0,0),gh (gh (gh s 2) 2) 2)]
def U2(s:ae Int):ae (t8×ae Int):=[
 (([0],[0],[0],1,3),gh (gh (gh s 2) 2) 2),(([0],[0],[1],1,3),gh (gh (gh s 2) 2) 2),(([1],[0],[0],1,3),gh (gh (gh s 2) 2) 2),(([1],[0],[1],1,3),gh (gh (gh s 2) 2) 2),
 (([0],[0],[0],0,0),gh (gh (gh (gh s 2) 2) 2) 2),(([0],[1],[0],0,0),gh (gh (gh (gh s 2) 2) 2) 2),(([1],[0],[0],0,0),gh (gh (gh (gh s 2) 2) 2) 2),(([1],[1],[0],0,0),gh (gh (gh (gh s 2) 2) 2) 2),
 (([0,1],[0,0],[0,0],0,0),gh (gh (gh (gh s 2) 2) 2) 2),(([0,1],[0,1],[0,0],0,0),gh (gh (gh (gh s 2) 2) 2) 2),(([0,1],[1,0],[0,0],0,0),gh (gh (gh (gh s 2) 2) 2) 2),(([0,1],[1,1],[0,0],0,0),gh (gh (gh (gh s 2) 2) 2) 2)]
def jy(two:aC)(s:ae Int):ae (t8×ae Int):=aY two (U2 s) (U1 s)
theorem U0{a wd:Int}{two:aC}:lK W X hX false 5 882 [.ex (.own 0), .ex (ju a two wd)] [.ix [x,y]]=af ((jy two [x,y]).map λ c=>(.ex c.1.v,[.ix c.2])):=by
 cases two<;>kernel_rfl
theorem oJ{j:aC}{n:Nat}{f:au}{ts:ae TV}{tm:ae TO}{outs:ae Out}(e:lK W X hX j n f ts tm=af outs){vs:ae AV}{m:ae AO}(gv:dD ts vs)(gm:GM tm m):DW (PN W X hX j n) f vs m outs:=(qr W X hX j n f ts tm outs e vs m gv gm).le (cC.RH _)
theorem mM{r:ae Int}(h:r.length=2):∃x y,r=[x,y]:=by
 match r,h with
 |[x,y],_=>exact⟨x,y,rfl⟩
theorem O6{r:ae Int}(hr:r.length=2):∃c∈iY,∃r',r'.length=2/\WC (PN W X hX false 5) 872 [.own 0] [.il r] λ v m=>v=ju c.1 c.2.1 c.2.2/\m=[.il r']:=by
 obtain⟨x,y,rfl⟩:=mM hr
 obtain⟨c,hc,h⟩:=(oJ (vs:=[.own 0]) (m:=[.il [x,y]]) (O7 (W:=W) (X:=X) (hX:=hX) (x:=x) (y:=y)) ⟨_,_,rfl,rfl,rfl⟩ (GM.src _)).src (g:=λ c:Int×aC×Int=>ju c.1 c.2.1 c.2.2) (k:=λ aa=>gh (gh (gh [x,y] 2) 2) 2) rfl
 exact⟨c,hc,_,rfl,h⟩
theorem TB{c:Int×aC×Int}(hc:c∈iY){r:ae Int}(hr:r.length=2):∃cs r',cs.length=(bg c).1+(bg c).2/\r'.length=2/\(∀c∈cs,ny c)/\
  WC (PN W X hX false 5) 877 [.own 0,ju c.1 c.2.1 c.2.2] [.il r] λ v m=>v=Gu c.2.1 (bg c).1 (bg c).2 cs/\m=[.il r']:=by
 obtain⟨x,y,rfl⟩:=mM hr
 exact ob.u (rY TC c hc) λ outs e1 e2=>((oJ (vs:=[.own 0,ju c.1 c.2.1 c.2.2]) (m:=[.il [x,y]]) e1 (.cons rfl (.cons rfl rfl)) (GM.src _)).fz e2).src (g:=λ p:ae (aC×ae Int)×ae Int=>Gu c.2.1 (bg c).1 (bg c).2 p.1) (k:=λ p=>p.2) rfl|>.elim λ p hp=>
  have z:=AG _ _ rfl p hp.1; ⟨_,_,z.n,z.l,z.c,hp.2⟩
noncomputable def placesOf(two:aC):ae (ae Int):=aY two [[0],[1],[0,1]] [[0]]
structure Wa(two:aC)(c:t8×ae Int):Prop where
 l:c.2.length=2
 p:c.1.1∈placesOf two
theorem De(two:aC)(s:ae Int):∀c∈jy two s,Wa two c:=by
 cases two
 ·exact all2 ⟨rfl, .head _⟩ (all2 ⟨rfl, .head _⟩ (all2 ⟨rfl, .head _⟩ (all2 ⟨rfl, .head _⟩ (all2 ⟨rfl, .head _⟩ (all2 ⟨rfl, .head _⟩ (sk))))))
 ·exact all2 ⟨rfl, .head _⟩ (all2 ⟨rfl, .head _⟩ (all2 ⟨rfl, .tail _ (.head _)⟩ (all2 ⟨rfl, .tail _ (.head _)⟩ (all2 ⟨rfl, .head _⟩ (all2 ⟨rfl, .head _⟩ (all2 ⟨rfl, .tail _ (.head _)⟩ (all2 ⟨rfl, .tail _ (.head _)⟩ (all2 ⟨rfl, .tail _ (.tail _ (.head _))⟩ (all2 ⟨rfl, .tail _ (.tail _ (.head _))⟩ (all2 ⟨rfl, .tail _ (.tail _ (.head _))⟩ (all2 ⟨rfl, .tail _ (.tail _ (.head _))⟩ (sk))))))))))))
theorem I1(two:aC)(s:ae Int)(c:t8×ae Int)(h:c∈jy two s):c.2.length=2:=(De two s c h).l
theorem Qx(two:aC)(s:ae Int)(c:t8×ae Int)(h:c∈jy two s):c.1.1∈placesOf two:=(De two s c h).p
theorem UZ{a wd:Int}{two:aC}{r:ae Int}(hr:r.length=2):∃c∈jy two r,WC (PN W X hX false 5) 882 [.own 0,ju a two wd] [.il r] λ v m=>v=c.1.v/\m=[.il c.2]:=by
 obtain⟨x,y,rfl⟩:=mM hr
 exact(oJ (vs:=[.own 0,ju a two wd]) (m:=[.il [x,y]]) U0 (.cons rfl (.cons rfl rfl)) (GM.src _)).src (g:=λ c:t8×ae Int=>c.1.v) (k:=λ c=>c.2) rfl
end
noncomputable def nW:Ct:={names:=[("frame", .local),("scan", .local),("across", .local),("index", .local),("units_across", .globalImplicit),("range", .globalImplicit),("unit_count", .globalImplicit),("unit_at", .globalImplicit)],aR:=["frame","scan","across","index"]}
def Du(P:cC):SX P nW:=MJ 2 (q 468 4 468 10) (Dx (Vz "units_across" (.fn 647) (q 468 13 468 25)) (iR (eW 0 (q 468 26 468 31)) (iR (eW 1 (q 468 33 468 37)) qU)) (q 468 13 468 38)) (q 468 4 468 38)
def Dt(P:cC):SE P nW:=HL (q 469 17 469 22) (iR (Dx (Vz "unit_count" (.fn 654) (q 469 23 469 33)) (iR (eW 0 (q 469 34 469 39)) (iR (eW 1 (q 469 41 469 45)) qU)) (q 469 23 469 46)) qU) (q 469 17 469 47)
def Vp(P:cC):SE P nW:=Dx (Vz "unit_at" (.fn 661) (q 470 14 470 21)) (iR (eW 0 (q 470 22 470 27)) (iR (eW 1 (q 470 29 470 33)) (iR (Nu (eW 3 (q 470 35 470 40)) .Mod (eW 2 (q 470 43 470 49)) (q 470 35 470 49)) (iR (Nu (eW 3 (q 470 51 470 56)) .FloorDiv (eW 2 (q 470 60 470 66)) (q 470 51 470 66)) qU)))) (q 470 14 470 67)
def AD(P:cC):ae fW:=Rx (Du P).bA "index" (q 469 8 469 13) (Dt P).bA (Vp P).bA (q 470 8 470 67) (q 470 8 470 67) (q 469 4 470 67)
theorem Zj(P Q:cC):AD P=AD Q:=by kernel_rfl
def Xd(K:f_)(f:au):aC:=GB K f&&(fdB K nW ["frame","scan"] (fdOf K f) true&&(oY (fdOf K f).params ["frame","scan"]&&noV (fdOf K f).defaults))
structure UK{prog:aK}{w:bw}(W:WK prog w):Prop where
 fn:Xd W.K 668=true
 body:(fdOf W.K 668).body= .stmts (AD (P0 prog w))
def UE(P:cC)(a b c:AV):Nat->ae AV->Prop
 |_,[]=>True
 |i,v::r=>(Vp P).ab ⟨[.ex a, .ex b, .ex c, .ex (.int i)],[]⟩=af [(.ex v,⟨[.ex a, .ex b, .ex c, .ex (.int i)],[]⟩)]/\UE P a b c (i+1) r
theorem dD.exact:∀{l x:ae AV},dD (yD l) x->x=l
 |[],_=>id
 |v::r,_=>λ h=>h.uc (Q:=λ x=>x=v::r) λ u t e g=>congr (ah A7 (show u=v from e)) (dD.exact g)
theorem GS.exact{l:ae AV}{τ:St}(h:GS ⟨yD l,[]⟩ τ):τ=⟨l,[]⟩:=congr (ah St.mk (dD.exact h.loc)) (cX.mp h.mem.len.symm)
theorem GS.of(l:ae AV):GS ⟨yD l,[]⟩ ⟨l,[]⟩:=⟨k8 l,⟨rfl,λ i o e=>cu e,λ i o q e=>cu e⟩⟩
theorem D2.Uz{α β:Type}{R:(α->St->Prop)->Prop}{g:β->α->Prop}{b:β}{l:ae AV}(h:D2 R g [(b,⟨yD l,[]⟩)]){v:α}(hv:∀a,g b a->a=v)(K:α->St->Prop)(k:K v ⟨l,[]⟩):R K:=
 h.u λ a τ b' s m ga gs r=>have e:=gA (aZ.mp m); r K ((hv a (e.1▸ga)).symm▸(GS.exact (e.2▸gs:GS ⟨yD l,[]⟩ τ)).symm▸k)
theorem UE.at{P:cC}{a b c:AV}:∀{Vs:ae AV} {j:Nat},UE P a b c j Vs->∀i,i < Vs.length->(Vp P).ab ⟨[.ex a, .ex b, .ex c, .ex (.int (j+i:Nat))],[]⟩=af [(.ex (fy Vs i),⟨[.ex a, .ex b, .ex c, .ex (.int (j+i:Nat))],[]⟩)]
 |[],_=>λ aa aa h=>bt h (ml _)
 |v::r,j=>λ h i=>match i with
  |0=>λ aa=>h.1
  |i+1=>λ hi=>(oz j i)▸UE.at h.2 i (iq hi)
theorem Gm:∀(Vs:ae AV) (V:Nat->AV) (i:Nat),(∀k,k < Vs.length->V (i+k)=fy Vs k)->Tj V i Vs.length=Vs
 |[],_,_=>λ aa=>rfl
 |v::r,V,i=>λ h=>congr (ah A7 (h 0 (uG _))) (Gm r V (i+1) λ k hk=>(ah V (oz i k)).trans (h (k+1) (f5 hk)))
theorem acH:Q_ ["frame","scan"]:=λ fd vs=>by kernel_rfl
section
variable{prog:aK}{w:bw}{W:WK prog w}{X:BM->Prop}{hX:∀G G',dC G G'->X G->X G'}{d:Nat}{cB:xI}
theorem Zi:((Du (PV W X hX (d+1) false cB)).b_&&((Dt (PV W X hX (d+1) false cB)).b_&&((Vp (PV W X hX (d+1) false cB)).b_&&oZ nW 3 "index")))=true:=by kernel_rfl
def uQ(P:cC)(a b c:AV)(Vs:ae AV):GQ P nW:=⟨q 469 8 469 13,q 470 8 470 67,q 470 8 470 67,q 469 4 470 67,Du P,Dt P,Vp P,a,b,c,Vs.length,fy Vs⟩
theorem Nk(fo:lT (PV W X hX (d+1) false cB)){a b c:AV}{Vs:ae AV}(NF:Builtin.Range.small 0 (Vs.length:Nat) 1=true)
  (h0:(Du (PV W X hX (d+1) false cB)).ab ⟨[.ex a, .ex b, .ex .undef, .ex .undef],[]⟩=af [(.d7,⟨[.ex a, .ex b, .ex c, .ex .undef],[]⟩)])
  (h1:(Dt (PV W X hX (d+1) false cB)).ab ⟨[.ex a, .ex b, .ex c, .ex .undef],[]⟩=af [(.ex (.j6 0 (Vs.length:Nat) 1),⟨[.ex a, .ex b, .ex c, .ex .undef],[]⟩)]) (h2:UE (PV W X hX (d+1) false cB) a b c 0 Vs):(uQ (PV W X hX (d+1) false cB) a b c Vs).Ok:=
 have k:=aG (Zi (W:=W) (X:=X) (hX:=hX) (d:=d) (cB:=cB))
 have k2:=aG k.2
 have k3:=aG k2.2
 {hj:=rfl,c0:=k.1,c1:=k2.1,ce:=k3.1,ct3:=k3.2,hs:=λ aa aa=>rfl,NF:=NF
  YH:=λ K k=>D2.Uz (l:=[a,b,c, .undef]) ((Du _).cN fo _ _ h0 _ (GS.of [a,b, .undef, .undef])) (λ aa=>id) K k
  YI:=λ K k=>D2.Uz (l:=[a,b,c, .undef]) ((Dt _).cN fo _ _ h1 _ (GS.of [a,b,c, .undef])) (λ aa=>id) K k
  run:=λ i hi K k=>D2.Uz (l:=[a,b,c, .int i]) ((Vp _).cN fo _ _ (fm i▸UE.at h2 i hi) _ (GS.of [a,b,c, .int i])) (λ aa=>id) K k}
theorem I9(U:UK W)(fo:lT (PV W X hX (d+1) false cB)){a b c:AV}{Vs:ae AV}(cl:∀f,ei f [a,b]=[a,b])(hl:0 < Vs.length)(NF:Builtin.Range.small 0 (Vs.length:Nat) 1=true)
  (h0:(Du (PV W X hX (d+1) false cB)).ab ⟨[.ex a, .ex b, .ex .undef, .ex .undef],[]⟩=af [(.d7,⟨[.ex a, .ex b, .ex c, .ex .undef],[]⟩)])
  (h1:(Dt (PV W X hX (d+1) false cB)).ab ⟨[.ex a, .ex b, .ex c, .ex .undef],[]⟩=af [(.ex (.j6 0 (Vs.length:Nat) 1),⟨[.ex a, .ex b, .ex c, .ex .undef],[]⟩)]) (h2:UE (PV W X hX (d+1) false cB) a b c 0 Vs):
  qN (PV W X hX (d+2) false cB) 668 [a,b] Vs:=by
 have hf:=aG U.fn
 have hg:=aG hf.2
 have hp:=aG hg.2
 have key:=qN.of (P:=PV W X hX (d+1) false cB) (st:=uQ _ a b c Vs) (Nk fo NF h0 h1 h2) (Gq hg.1 (U.body.trans (ah gS (Zj _ _))) λ s vals aa=>sO acH hp.1 (Mc hp.2) s vals) (Co hf.1) rfl (by decide) rfl rfl rfl (DC hl).symm cl
 exact(ah (qN (PV W X hX (d+2) false cB) 668 [a,b]) ((ah (Tj (fy Vs) 0) (DC hl)).trans (Gm Vs (fy Vs) 0 λ k aa=>ah (fy Vs) (fm k)))).mp key
end
theorem qN.le{P Q:cC}(x:P.Le Q){f:au}{vs Vs:ae AV}(h:qN P f vs Vs):qN Q f vs Vs:=by
 refine⟨λ A G ρ mem s us R room i7 M v k=>?_⟩
 have h1:=h.run A G ρ mem s us R (room.less x.d) (x.i7 G i7) M v
 rw[x.prog,x.w] at h1
 exact h1 k
noncomputable def ivS(fr sc:AV)(R:ae (ae (ae (ae Int))))(iv:Int):AS:=⟨[.ex fr, .gr R, .ex sc, .ex (.int iv), .ex (.own 1), .ex (.int 0), .ex .undef, .ex .undef, .ex .undef, .ex .undef, .ex .undef],[.lst [], .lst [.ex (.own 0)]]⟩
def J0:(l:ae (AF×AS))->aq {u:e7 // ∀o∈l,o.1= .d7/\∀σ,GS o.2 σ->fy σ.loc 4= .own 1}
 |[]=>af ⟨(),λ aa h=>nomatch h⟩
 |(.d7,s)::r=>ob (J0 r) λ k=>match h:Q0 s.loc 4 with
  |some (.ex (.own 1))=>af ⟨(),λ o ho=>by
   rcases bW.mp ho with rfl|ho
   ·refine⟨rfl,λ σ gs=>?_⟩
    obtain⟨u,_,e,g⟩:=tV gs.loc h
    rw[e]; exact g
   ·exact k.2 o ho⟩
  |_=>none
 |_=>none
def ivB(P:cC)(fr sc:AV)(R:ae (ae (ae (ae Int))))(iv:Int)(Vs:ae AV):aq (ae Out):=ob (B3 (m6 P).st (kx P).ab 12 (.fz (yD Vs)) (ivS fr sc R iv)) λ outs=>ob (J0 outs) λ aa=>ZQ 0 (outs.map λ o=>(.ex (.own 1),o.2.mem))
section
variable{prog:aK}{w:bw}{W:WK prog w}{X:BM->Prop}{hX:∀G G',dC G G'->X G->X G'}
theorem GM.nil:GM [] []:=⟨rfl,λ aa aa e=>cu e,λ aa aa aa e=>cu e⟩
theorem Ua{P:cC}(fo:lT P){Cf Cs:au}{kf ks:ae Nat}{vf vs:ae AV}{R:ae (ae (ae (ae Int)))}{gv:AV}{iv:Int}{Vs:ae AV}{bl:AV}(GC:qN P 668 [.inst Cf kf vf, .inst Cs ks vs] Vs)(hG:mY R gv)
  (h:ivB P (.inst Cf kf vf) (.inst Cs ks vs) R iv Vs=af [(.ex bl,[])]):
  gW (λ K=>(kj P).run ⟨fill dP.aR [.inst Cf kf vf,gv, .inst Cs ks vs, .int iv],[]⟩ (iE λ v m=>K (v,m))) λ a=>∃r,ND 0 a.1 a.2=af r/\r.1=bl/\r.2=[]:=by
 obtain⟨ps,rfl,Pi⟩:=id hG
 refine ob.u h λ outs e1 e2=>ob.u e2 λ nx aa e2=>?_
 have g0:GS (ivS (.inst Cf kf vf) (.inst Cs ks vs) R iv) ⟨[.inst Cf kf vf, .inst 812 [28,29] [.int 4, .lst ps], .inst Cs ks vs, .int iv, .own 1, .int 0, .undef, .undef, .undef, .undef, .undef],[.lst [], .lst [.own 0]]⟩:=
  ⟨.cons rfl (.cons hG (.cons rfl (.cons rfl (.cons rfl (.cons rfl (.cons rfl (.cons rfl (.cons rfl (.cons rfl (.cons rfl rfl)))))))))),GM.app (o:= .lst [.ex (.own 0)]) (o':= .lst [.own 0]) (GM.app (t:=[]) (m:=[]) (o:= .lst []) (o':= .lst []) GM.nil ⟨[],rfl,rfl⟩ rfl) ⟨_,rfl, .cons rfl rfl⟩ rfl⟩
 refine(sx ((kx P).cN fo) 12 (.fz (yD Vs)) (.fz 0 Vs) ⟨0,Vs,rfl,k8 Vs⟩ _ outs e1 _ g0).u λ f σ b t ho gf gs k=>?_
 have n:=nx.2 (b,t) ho
 obtain rfl:f= .d7:=(n.1▸gf:GF .d7 f)
 refine(wE e2 _ (dM.mpr ⟨(b,t),ho,rfl⟩)).elim λ o' z=>ob.u z.2 λ v0 aa e3=>ob.u e3 λ m0 aa e3=>ob.u e3 λ r hr e3=>ob.u e3 λ t ht e3=>?_
 have e5:=gA ((ak e3).trans (aZ.mp z.1))
 refine⟨(.own 1,σ.mem),⟨r,(congr (ah (ND 0) (v0.2 _ rfl)) (m0.2 σ.mem σ.mem gs.mem.len.symm gs.mem.get)).trans hr,by injection e5.1,cX.mp (t.2.1.symm.trans (ah fU e5.2))⟩,λ K hk=>?_⟩
 show ∃Vs,qN P 668 [.inst Cf kf vf, .inst Cs ks vs] Vs/\∃N,jo (m6 P).set (kx P).run N (.fz 0 Vs) _ _
 refine⟨Vs,GC,12,k _ ?_⟩
 show ldK (fy σ.loc 4) σ λ v aI=>K (v,aI.mem)
 exact(n.2 σ gs).symm▸hk
noncomputable def qR(p:Int×ae Int):AV:= .tup [.int p.1, .row p.2]
noncomputable def kY(l:ae (ae (Int×ae Int))):AV:= .lst (l.map λ b=> .lst (b.map qR))
def JN(P:cC)(a b:AV)(c:Int)(Vs:ae AV):Prop:=(Du P).ab ⟨[.ex a, .ex b, .ex .undef, .ex .undef],[]⟩=af [(.d7,⟨[.ex a, .ex b, .ex (.int c), .ex .undef],[]⟩)]/\
 (Dt P).ab ⟨[.ex a, .ex b, .ex (.int c), .ex .undef],[]⟩=af [(.ex (.j6 0 (Vs.length:Nat) 1),⟨[.ex a, .ex b, .ex (.int c), .ex .undef],[]⟩)]/\UE P a b (.int c) 0 Vs
noncomputable def oh(pl:ae Int):ae (ae (ae Int)):=match pl with
 |[_]=>[[[0]],[[0,0]],[[0],[0]]]
 |_=>[[[0,1]],[[0,1,0,1]],[[0,1],[0,1]],[[0,0,1]]]
structure Kd where
 sc:AV
 two:aC
 ks:ae (ae Int)
 lo:Int
 hi:Int
noncomputable def EM(pl ac:ae Int):ae Kd:=[⟨jx pl [0] [0] 1 3,false,[[1,0]],1,3⟩,⟨jx pl [0] [1] 1 3,false,[[1,1]],1,3⟩,⟨jx pl [0] ac 0 0,false,[[0,0]],0,85⟩,⟨jx pl [1] ac 0 0,false,[[0,1]],0,85⟩,⟨jx pl [0,0] ac 0 0,true,[[0,0]],0,85⟩,⟨jx pl [1,1] ac 0 0,true,[[0,1]],0,85⟩,⟨jx pl [0,1] ac 0 0,true,[[0,0],[0,1]],0,85⟩,⟨jx pl [1,0] ac 0 0,true,[[0,0],[0,1]],0,85⟩]
noncomputable def Z_(two:aC):ae (ae (ae Int)):=oh (aY two [0,1] [0])
noncomputable def Hf:ae (ae Int)->ae (ae (ae Int))
 |[]=>[]
 |k::r=>[k]::(Hf r).map (k::·)
structure JI(P:cC)(fr:AV)(pl:ae Int)(iv:Int)(rv gv:AV)(rows:ae (ae Int))(bl:ae (ae (Int×ae Int))):Prop where
 law:∀dc ac s e,WC P 892 [fr,jx pl dc ac s e,rv, .int iv] [] λ v m=>v=kY bl/\m=[]
 own:∀dc ac s e,WC P 675 [fr,gv,jx pl dc ac s e, .int iv] [] λ v m=>v=kY bl/\m=[]
 shp:bl.map (·.map (·.1))∈oh pl
 rok:∀b∈bl,∀p∈b,p.2∈rows
theorem WC.G4{P:cC}{f:au}{vs:ae AV}{v:AV}(h:DW P f vs [] [(.ex v,[])]):WC P f vs [] λ v' m'=>v'=v/\m'=[]:=by
 obtain⟨a,m,⟨o,ho,gv,gm⟩,w⟩:=h
 obtain rfl:=aZ.mp ho
 rw[show a=v from gv,cX.mp gm.len.symm] at w
 exact w
def PG(W:WK prog w)(X:BM->Prop)(hX:∀G G',dC G G'->X G->X G'):cC:=PV W X hX 20 false bP
theorem QY{n:Nat}(U:UK W){a b:AV}{c:Int}{Vs:ae AV}(cl:∀f,ei f [a,b]=[a,b])(hl:0 < Vs.length)(NF:Builtin.Range.small 0 (Vs.length:Nat) 1=true)(h:JN (PN W X hX false n) a b c Vs):qN (PN W X hX false (n+1)) 668 [a,b] Vs:=
 qN.le (P:=PV W X hX (2 * n+2) false (lK W X hX false n)) (Q:=PN W X hX false (n+1)) ⟨rfl,rfl,by show 2 * n+2<=2 * (n+1)+1; omega, .inl rfl,λ aa h=>h⟩ (I9 (W:=W) (X:=X) (hX:=hX) (d:=2 * n) (cB:=lK W X hX false n) U (qr W X hX false n) cl hl NF h.1 h.2.1 h.2.2)
theorem abB{n:Nat}{vs:ae AV}{bl:AV}(hl:vs.length=4)(h:gW (λ K=>(kj (PN W X hX false n)).run ⟨fill dP.aR vs,[]⟩ (iE λ v m=>K (v,m))) λ a=>∃r,ND 0 a.1 a.2=af r/\r.1=bl/\r.2=[]):
  WC (PV W X hX (2 * n+2) false (lK W X hX false n)) 675 vs [] λ v m=>v=bl/\m=[]:=by
 have d:=qq (W:=W) (X:=X) (hX:=hX) (j:=false) (cB:=lK W X hX false n) (d:=2 * n) (i:=35) (e:=fe 675 dP ["frame","grid","scan","interval"] kj) (vs:=vs) (m:=[]) (I:=λ v m=>∃r,ND 0 v m=af r/\r.1=bl/\r.2=[]) rfl rfl hl h
 obtain⟨v,m,⟨rfl,rfl⟩,z⟩:=fh.fz (I':=λ v m=>v=bl/\m=[]) d λ v m ⟨r,e1,e2,e3⟩=>⟨r,e1,e2,e3⟩
 exact z
theorem PNG{n:Nat}(h:2 * n+1<=20):(PN W X hX false n).Le (PG W X hX):=⟨rfl,rfl,h, .inl rfl,λ aa h=>h⟩
theorem aan{n:Nat}(h:2 * n+2<=20):(PV W X hX (2 * n+2) false (lK W X hX false n)).Le (PG W X hX):=⟨rfl,rfl,h, .inl rfl,λ aa h=>h⟩
theorem XF(U:UK W){a wd iv c:Int}{two:aC}{pl:ae Int}{rv gv:AV}{R:ae (ae (ae (ae Int)))}{rows:ae (ae Int)}{bl:ae (ae (Int×ae Int))}{Vs:ae AV}(hG:mY R gv)(hl:0 < Vs.length)(NF:Builtin.Range.small 0 (Vs.length:Nat) 1=true)
  (hu:∀dc ac s e,JN (PN W X hX false 5) (ju a two wd) (jx pl dc ac s e) c Vs) (hi:∀dc ac s e,ivB (PN W X hX false 6) (ju a two wd) (jx pl dc ac s e) R iv Vs=af [(.ex (kY bl),[])])
  (hw:∀dc ac s e,lK W X hX false 5 892 [.ex (ju a two wd), .ex (jx pl dc ac s e), .ex rv, .ex (.int iv)] []=af [(.ex (kY bl),[])]) (hs:bl.map (·.map (·.1))∈oh pl) (hr:∀b∈bl,∀p∈b,p.2∈rows):JI (PG W X hX) (ju a two wd) pl iv rv gv rows bl:=by
 refine⟨λ dc ac s e=>?_,λ dc ac s e=>?_,hs,hr⟩
 ·have z:=WC.G4 (oJ (vs:=[ju a two wd,jx pl dc ac s e,rv, .int iv]) (m:=[]) (hw dc ac s e) ⟨_,_,rfl,rfl,_,_,rfl,rfl,_,_,rfl,rfl,_,_,rfl,rfl,rfl⟩ GM.nil)
  exact z.up (PNG (by decide))
 ·have g:=QY U (a:=ju a two wd) (b:=jx pl dc ac s e) (λ f=>by cases two<;>rfl) hl NF (hu dc ac s e)
  have z:=Ua (qr W X hX false 6) (Cf:=779) (kf:=[23,24,25,26,27,9]) (Cs:=847) (ks:=[30,31,32,33,11,34,4]) (gv:=gv) (iv:=iv) g hG (hi dc ac s e)
  exact(abB rfl z).up (aan (by decide))
end
noncomputable def t9(f:Int->Int):Int->ae Int->Int
 |b,[]=>b
 |b,v::r=>t9 f (aY (decide (f v < f b)) v b) r
def SO(P:cC)(lf:au)(ks:ae (ae Int))(us:ae AV)(sz:Int):Prop:=∀M i,bK M i=af (.bG ks us)->WC P lf [.own i] M λ v m=>v= .int sz/\∃qg r,m=bz M i (.bG ks qg)++r
theorem Me{α β:Type}{x:aq α}{a:α}{f:α->aq β}(e:x=af a):ob x f=f a:=e▸rfl
theorem zR{n:Nat}{fg:ae aC}{K:Fl->St->Prop}{f f':Fl}{σ:St}{l:ae AV}{m:ae AO}(e1:UO n σ.mem f=af f')(e2:iZ (lO n σ.mem 12) (W8 fg σ.loc)=af l)(e3:iZ (x8 n σ.mem 12) (QR n σ.mem)=af m)(h:K f' ⟨l,m⟩):KU n fg K f σ:=
 G_ (a:=(f',⟨l,m⟩)) ((Me e1).trans ((Me e2).trans (Me e3))) h
theorem mh{set:AV->St->(St->Prop)->Prop}{b:Body}{n k:Nat}{v:AV}{r:ae AV}{σ:St}{K:Fl->St->Prop}(h:set v σ λ aI=>b aI λ f aU=>r7 f aU (λ dz=>jo set b n (.fz (k+1) r) dz K) K):jo set b (n+1) (.fz k (v::r)) σ K:=h
theorem sy{set:AV->St->(St->Prop)->Prop}{b:Body}{n k:Nat}{σ:St}{K:Fl->St->Prop}(h:K .d7 σ):jo set b (n+1) (.fz k []) σ K:=h
theorem jq{σ:St}{A:St->Prop}{B:Fl->St->Prop}(h:A σ):r7 .d7 σ A B:=h
noncomputable def Pre(k s:Int)(ks:ae (ae Int))(us:ae AV):Prop:=(ks=[]/\us=[])\/(k=0/\s=1/\ks=[[0,0]]/\∃c,us=[.int c])
theorem Pre.u{k s:Int}{ks:ae (ae Int)}{us:ae AV}{Q:Int->Int->ae (ae Int)->ae AV->Prop}(h:Pre k s ks us)(h1:∀k s,Q k s [] [])(h2:∀c,Q 0 1 [[0,0]] [.int c]):Q k s ks us:=
 h.elim (λ z=>z.1▸z.2▸h1 k s) λ z=>z.1▸z.2.1▸z.2.2.1▸z.2.2.2.elim λ c e=>e▸h2 c
theorem Pre.res{k s:Int}{ks:ae (ae Int)}{us:ae AV}(h:Pre k s ks us)(n:Nat)(m:ae AO):x8 n m 12 (.bG ks us)=af (.bG ks us):=
 h.u (Q:=λ k s ks us=>x8 n m 12 (.bG ks us)=af (.bG ks us)) (λ aa aa=>rfl) λ aa=>rfl
theorem Pre.YD{k s x:Int}{ks:ae (ae Int)}{us:ae AV}(h:Pre k s ks us)(n:Nat)(m:ae AO):x8 n m 12 (.bG (ks++[[k,s]]) (us++[.int x]))=af (.bG (ks++[[k,s]]) (us++[.int x])):=
 h.u (Q:=λ k s ks us=>x8 n m 12 (.bG (ks++[[k,s]]) (us++[.int x]))=af (.bG (ks++[[k,s]]) (us++[.int x]))) (λ aa aa=>rfl) λ aa=>rfl
noncomputable def A1(f:Int->Int)(x:aq Int):AV:=match x with
 |none=> .none
 |some b=> .tup [.int b, .int (f b)]
noncomputable def BC(f:Int->Int)(x:aq Int)(v:Int):aq Int:=match x with
 |none=>af v
 |some b=>af (aY (decide (f v < f b)) v b)
theorem vY(f:Int->Int):∀(r:ae Int) (b:Int),r.foldl (BC f) (af b)=af (t9 f b r)
 |[],_=>rfl
 |v::r,b=>vY f r _
noncomputable def AY(k s:Int)(vals:ae Int)(lf:au)(fd a5 a6 a7:AV):ae AV:=[.own 0, .tup [.int k, .int s], .row vals, .fn lf,fd,a5,a6,a7]
section
variable{prog:aK}{w:bw}{W:WK prog w}{X:BM->Prop}{hX:∀G G',dC G G'->X G->X G'}{j:aC}{cB:xI}{d:Nat}{k s v:Int}{f:Int->Int}{vals:ae Int}{ks:ae (ae Int)}{us:ae AV}{lf:au}
def WB(P:cC)(loc:ae AV)(m:ae AO)(K:Fl->St->Prop):Prop:=
 (sIf (tOr (QO (eW 4 p0) .Is (zg 0 p0) p0) (QO (eW 7 p0) .Lt (Fz (eW 4 p0) (x_ 1 p0) p0) p0) p0) (iH (MJ 4 p0 (VC (iR (eW 5 p0) (iR (eW 7 p0) qU)) 0 p0) p0) lC) lC p0:SX P d4).run ⟨loc,m⟩ λ f σ=>r7 f σ (λ σ=>KU 1 (Gr.getD 0 []) K .d7 σ) (KU 1 (Gr.getD 0 []) K)
theorem aaD{qg:ae AV}{r:ae AO}{K:Fl->St->Prop}:WB (PV W X hX (d+1) j cB) (AY k s vals lf (A1 f none) (.int v) (.own 1) (.int (f v))) ([.bG ks us, .bG (ks++[[k,s]]) qg]++r) K=KU 1 (Gr.getD 0 []) K .d7 ⟨AY k s vals lf (A1 f (af v)) (.int v) (.own 1) (.int (f v)),[.bG ks us, .bG (ks++[[k,s]]) qg]++r⟩:=by kernel_rfl
theorem aaE{qg:ae AV}{r:ae AO}{K:Fl->St->Prop}{b:Int}:WB (PV W X hX (d+1) j cB) (AY k s vals lf (A1 f (af b)) (.int v) (.own 1) (.int (f v))) ([.bG ks us, .bG (ks++[[k,s]]) qg]++r) K=aY (decide (f v < f b)) (KU 1 (Gr.getD 0 []) K .d7 ⟨AY k s vals lf (A1 f (af v)) (.int v) (.own 1) (.int (f v)),[.bG ks us, .bG (ks++[[k,s]]) qg]++r⟩) (KU 1 (Gr.getD 0 []) K .d7 ⟨AY k s vals lf (A1 f (af b)) (.int v) (.own 1) (.int (f v)),[.bG ks us, .bG (ks++[[k,s]]) qg]++r⟩):=by kernel_rfl
theorem H7(sC:Pre k s ks us){x:aq Int}{o7:AV}(H:SO (PV W X hX (d+1) j cB) lf (ks++[[k,s]]) (us++[.int v]) (f v))(K:Fl->St->Prop)
  (hK:K .d7 ⟨AY k s vals lf (A1 f (BC f x v)) (.int v) .undef (.int (f v)),[.bG ks us]⟩):(ii (PV W X hX (d+1) j cB)).run ⟨AY k s vals lf (A1 f x) (.int v) .undef o7,[.bG ks us]⟩ K:=
 have e:(ii (PV W X hX (d+1) j cB)).run ⟨AY k s vals lf (A1 f x) (.int v) .undef o7,[.bG ks us]⟩ K=WC (PV W X hX (d+1) j cB) lf [.own 1] [.bG ks us, .bG (ks++[[k,s]]) (us++[.int v])] λ u m=>WB (PV W X hX (d+1) j cB) (AY k s vals lf (A1 f x) (.int v) (.own 1) u) m K:=
  sC.u (Q:=λ k s ks us=>(ii (PV W X hX (d+1) j cB)).run ⟨AY k s vals lf (A1 f x) (.int v) .undef o7,[.bG ks us]⟩ K=WC (PV W X hX (d+1) j cB) lf [.own 1] [.bG ks us, .bG (ks++[[k,s]]) (us++[.int v])] λ u m=>WB (PV W X hX (d+1) j cB) (AY k s vals lf (A1 f x) (.int v) (.own 1) u) m K) (λ k s=>by kernel_rfl) λ c=>by kernel_rfl
 have fin (y:aq Int) (qg:ae AV) (r:ae AO) (h:K .d7 ⟨AY k s vals lf (A1 f y) (.int v) .undef (.int (f v)),[.bG ks us]⟩):KU 1 (Gr.getD 0 []) K .d7 ⟨AY k s vals lf (A1 f y) (.int v) (.own 1) (.int (f v)),[.bG ks us, .bG (ks++[[k,s]]) qg]++r⟩:=
  zR rfl (by cases y<;>rfl) (bV (sC.res _ _) rfl) h
 have key (qg:ae AV) (r:ae AO):WB (PV W X hX (d+1) j cB) (AY k s vals lf (A1 f x) (.int v) (.own 1) (.int (f v))) ([.bG ks us, .bG (ks++[[k,s]]) qg]++r) K:=by
  cases x with
  |none=>exact nf aaD (fin (af v) qg r hK)
  |some b=>
   refine nf aaE ?_
   rw[show BC f (af b) v=af (aY (decide (f v < f b)) v b) from rfl] at hK
   cases e:decide (f v < f b) with
   |true=>rw[e] at hK; exact fin (af v) qg r hK
   |false=>rw[e] at hK; exact fin (af b) qg r hK
 nf e ((H _ 1 rfl).mono λ u m z=>z.2.elim λ qg y=>y.elim λ r em=>z.1.symm▸em.symm▸key qg r)
theorem Cy{P:cC}{v:AV}{σ:St}{K:St->Prop}(h:K (σ.set 5 v)):(lM P).set v σ K:=h
theorem yj(sC:Pre k s ks us){K:Fl->St->Prop}:∀(l:ae Int) (x:aq Int) (i:Nat) (o5 o7:AV),(∀v∈l,SO (PV W X hX (d+1) j cB) lf (ks++[[k,s]]) (us++[.int v]) (f v))->
  (∀o5 o7,K .d7 ⟨AY k s vals lf (A1 f (l.foldl (BC f) x)) o5 .undef o7,[.bG ks us]⟩)->jo (lM (PV W X hX (d+1) j cB)).set (ii (PV W X hX (d+1) j cB)).run (l.length+1) (.fz i (bU l)) ⟨AY k s vals lf (A1 f x) o5 .undef o7,[.bG ks us]⟩ K
 |[],x,i,o5,o7,_,hK=>sy (hK o5 o7)
 |v::r,x,i,o5,o7,H,hK=>mh (Cy (H7 sC (H v aW) _ (jq (yj sC r (BC f x v) (i+1) _ _ (λ y hy=>H y (aQ _ hy)) hK))))
theorem D7{v0:Int}{r:ae Int}(sC:Pre k s ks us)(H:∀v∈v0::r,SO (PV W X hX (d+1) j cB) lf (ks++[[k,s]]) (us++[.int v]) (f v)):
  WC (PV W X hX (d+2) j cB) 56 [.own 0, .tup [.int k, .int s], .row (v0::r), .fn lf] [.bG ks us] λ v m=>v= .tup [.int (t9 f v0 r), .int (f (t9 f v0 r))]/\m=[.bG ks us]:=
 (qq (W:=W) (X:=X) (hX:=hX) (j:=j) (cB:=cB) (d:=d) (i:=4) (e:=fe 56 d4 ["conditioning","key","values","size_of"] sq) (vs:=[.own 0, .tup [.int k, .int s], .row (v0::r), .fn lf]) (m:=[.bG ks us]) (I:=λ v m=>v= .tup [.int (t9 f v0 r), .int (f (t9 f v0 r))]/\m=[.bG ks us]) rfl rfl rfl
  ⟨(.tup [.int (t9 f v0 r), .int (f (t9 f v0 r))],[.bG ks us]),⟨rfl,rfl⟩,λ K hK=>nf (B:=∃N,jo (lM (PV W X hX (d+1) j cB)).set (ii (PV W X hX (d+1) j cB)).run N (.fz 0 (bU (v0::r))) ⟨AY k s (v0::r) lf (A1 f none) .undef .undef .undef,[.bG ks us]⟩ (pD (iH (Ff (eW 4 p0) p0) lC:SS (PV W X hX (d+1) j cB) d4) (iE λ v m=>K (v,m)))) (by kernel_rfl)
   ⟨_,yj sC (v0::r) none 0 .undef .undef H λ o5 o7=>(ah (λ x=>pD (iH (Ff (eW 4 p0) p0) lC:SS (PV W X hX (d+1) j cB) d4) (iE λ v m=>K (v,m)) .d7 ⟨AY k s (v0::r) lf (A1 f x) o5 .undef o7,[.bG ks us]⟩) (vY f r v0)).mpr hK⟩⟩).elim λ v z=>z.elim λ m z=>z.1.1▸z.1.2▸z.2
end
theorem WC.anyM{P:cC}{f:au}{vs:ae AV}{v0:AV}(h:WC P f vs [] λ v m=>v=v0/\m=[])(c1:∀f,ei f vs=vs)(c2:∀f,el f v0=v0)(M:ae AO):WC P f vs M λ v m=>v=v0/\m=M:=by
 refine WC.Fx [] h (c1 _).symm rfl rfl rfl ⟨c2 _,?_⟩
 show M++[]=M
 exact bQ M
noncomputable def rQ:ae Int:=[16,0,17,32,33,34,48,49,50,51,64,65,66,67,68,80,81,82,83,84,85]
noncomputable def Oe:ae Int:=[1,2,3]
def tH(k:ae Int):AV:= .tup (bU k)
section
variable{prog:aK}{w:bw}{W:WK prog w}{X:BM->Prop}{hX:∀G G',dC G G'->X G->X G'}{j:aC}{cB:xI}{d:Nat}{pl dc ac:ae Int}{a b:Int}
theorem r28:lK W X hX false 1 28 [.ex (.int 5)] []=af [(.ex (.row rQ),[])]:=by kernel_rfl
theorem r35:lK W X hX false 1 35 [.ex (.int 2)] []=af [(.ex (.row Oe),[])]:=by kernel_rfl
theorem r61:((EM pl ac).map λ e=>lK W X hX false 1 61 [.ex e.sc] [])=(EM pl ac).map λ e=>af [(.ex (.lst (e.ks.map tH)),[])]:=by kernel_rfl
theorem VF{n:Nat}(h:2 * n<=d):(PN W X hX false n).Le (PV W X hX (d+1) j cB):=⟨rfl,rfl,by show 2 * n+1<=d+1; omega, .inl rfl,λ aa h=>h⟩
theorem c28(hd:2<=d)(M:ae AO):WC (PV W X hX (d+1) j cB) 28 [.int 5] M λ v m=>v= .row rQ/\m=M:=
 WC.anyM ((WC.G4 (oJ (vs:=[.int 5]) (m:=[]) (r28 (W:=W) (X:=X) (hX:=hX)) ⟨_,_,rfl,rfl,rfl⟩ GM.nil)).up (VF (by omega))) (λ aa=>rfl) (λ aa=>rfl) M
theorem c35(hd:2<=d)(M:ae AO):WC (PV W X hX (d+1) j cB) 35 [.int 2] M λ v m=>v= .row Oe/\m=M:=
 WC.anyM ((WC.G4 (oJ (vs:=[.int 2]) (m:=[]) (r35 (W:=W) (X:=X) (hX:=hX)) ⟨_,_,rfl,rfl,rfl⟩ GM.nil)).up (VF (by omega))) (λ aa=>rfl) (λ aa=>rfl) M
theorem c61{sc:AV}{l:ae AV}(h:lK W X hX false 1 61 [.ex sc] []=af [(.ex (.lst l),[])])(c1:∀f,el f sc=sc)(c2:∀f,ei f l=l)(hd:2<=d)(M:ae AO):WC (PV W X hX (d+1) j cB) 61 [sc] M λ v m=>v= .lst l/\m=M:=
 WC.anyM ((WC.G4 (oJ (vs:=[sc]) (m:=[]) h ⟨_,_,rfl,rfl,rfl⟩ GM.nil)).up (VF (by omega))) (λ f=>by show[el f sc]=_; rw[c1]) (λ f=>by show AV.lst (ei f l)=_; rw[c2]) M
def Kl(pl dc ac:ae Int)(a b:Int)(lf:au)(k s:Int)(o:AV):ae AV:=[jx pl dc ac a b, .int 2, .int 5, .fn lf, .own 0,tH [k,s],o]
def WE(K:Fl->St->Prop):Fl->St->Prop:=KU 1 (Gr.getD 1 []) K
def chT:CS cm:=u5 19 cm (jg 1 (g8 (nP (g8 dZ) 1))) (f0 / 128 ^ 17)
def ch2(P:cC)(loc:ae AV)(m:ae AO)(K:Fl->St->Prop):Prop:=(chT P).run ⟨loc,m⟩ (WE K)
def S_(k s:Int)(loc:ae AV)(u:AV)(m:ae AO)(K:Fl->St->Prop):Prop:=Ir u (.int 0) m λ v=>I3 (.own 0) (tH [k,s]) v ⟨loc,m⟩ λ σ=>WE K .d7 σ
theorem Pre.S_{k s c cc:Int}{ks:ae (ae Int)}{us:ae AV}(h:Pre k s ks us){loc:ae AV}{K:Fl->St->Prop}:Mine.S_ k s loc (.tup [.int c, .int cc]) [.bG ks us, .lst []] K=WE K .d7 ⟨loc,[.bG (ks++[[k,s]]) (us++[AV.int c]), .lst []]⟩:=
 h.u (Q:=λ k s ks us=>Mine.S_ k s loc (.tup [.int c, .int cc]) [.bG ks us, .lst []] K=WE K .d7 ⟨loc,[.bG (ks++[[k,s]]) (us++[AV.int c]), .lst []]⟩) (λ aa aa=>by kernel_rfl) λ aa=>by kernel_rfl
theorem RA{lf:au}{k s c:Int}{ks:ae (ae Int)}{us:ae AV}(sC:Pre k s ks us){v0:Int}{r:ae Int}{cc:Int}
  (H:WC (PV W X hX (d+1) j cB) 56 [.own 0, .tup [.int k, .int s], .row (v0::r), .fn lf] [.bG ks us] λ v m=>v= .tup [.int c, .int cc]/\m=[.bG ks us]) (K:Fl->St->Prop)
  (hK:K .d7 ⟨Kl pl dc ac a b lf k s (.row (v0::r)),[.bG (ks++[[k,s]]) (us++[.int c])]⟩):ch2 (PV W X hX (d+1) j cB) (Kl pl dc ac a b lf k s (.row (v0::r))) [.bG ks us] K:=
 nf (B:=q6 .NK (.row (v0::r)) (.own 1) [.bG ks us, .lst []] λ b'=>aY b' (WC (PV W X hX (d+1) j cB) 56 [.own 0, .tup [.int k, .int s], .row (v0::r), .fn lf] [.bG ks us, .lst []] λ u m=>S_ k s (Kl pl dc ac a b lf k s (.row (v0::r))) u m K) (WE K .d7 ⟨Kl pl dc ac a b lf k s (.row (v0::r)),[.bG ks us, .lst []]⟩)) (by kernel_rfl)
  (Or.inr ⟨cx _,WC.Fx (M:=[.bG ks us, .lst []]) [0] H rfl rfl rfl (bV (by
   refine sC.u (Q:=λ k s ks us=>bK [.bG ks us, .lst []] 0=af (la (eQ [0] 2) (.bG ks us))) (λ aa aa=>rfl) λ aa=>rfl) rfl) (sC.u (Q:=λ k s ks us=>S_ k s (Kl pl dc ac a b lf k s (.row (v0::r))) (.tup [.int c, .int cc]) [.bG ks us, .lst []] K->S_ k s (Kl pl dc ac a b lf k s (.row (v0::r))) (el (eQ [0] 2) (.tup [.int c, .int cc])) (upd (eQ [0] 2) [0] [.bG ks us] [.bG ks us, .lst []]) K) (λ aa aa h=>h) (λ aa h=>h)
    (nf sC.S_ (zR (l:=Kl pl dc ac a b lf k s (.row (v0::r))) rfl rfl (bV (sC.YD _ _) rfl) hK)))⟩)
theorem pX(hd:2<=d){lf:au}{k s c:Int}{ks:ae (ae Int)}{us:ae AV}(sC:Pre k s ks us){vals:ae Int}(hk:(k=0/\vals=rQ)\/(k=1/\vals=Oe)){cc:Int}
  (H:WC (PV W X hX (d+1) j cB) 56 [.own 0, .tup [.int k, .int s], .row vals, .fn lf] [.bG ks us] λ v m=>v= .tup [.int c, .int cc]/\m=[.bG ks us]) {ov:AV} (K:Fl->St->Prop)
  (hK:K .d7 ⟨Kl pl dc ac a b lf k s (.row vals),[.bG (ks++[[k,s]]) (us++[.int c])]⟩):
  (gK (PV W X hX (d+1) j cB)).run ⟨Kl pl dc ac a b lf k s ov,[.bG ks us]⟩ K:=by
 rcases hk with⟨rfl,rfl⟩|⟨rfl,rfl⟩
 ·exact nf (B:=WC (PV W X hX (d+1) j cB) 28 [.int 5] [.bG ks us] λ v m=>ch2 (PV W X hX (d+1) j cB) (Kl pl dc ac a b lf 0 s v) m K) (by kernel_rfl) ((c28 hd _).known (RA sC H K hK))
 ·exact nf (B:=WC (PV W X hX (d+1) j cB) 35 [.int 2] [.bG ks us] λ v m=>ch2 (PV W X hX (d+1) j cB) (Kl pl dc ac a b lf 1 s v) m K) (by kernel_rfl) ((c35 hd _).known (RA sC H K hK))
theorem nI{P:cC}{v:AV}{σ:St}{K:St->Prop}(h:K (σ.set 5 v)):(e_ P).set v σ K:=h
theorem TM{ks:ae (ae Int)}{us:ae AV}{rest:ae AO}(hI:iZ (lO 0 (.bG ks us::rest) 11) us=af us):ND 0 (.own 0) (.bG ks us::rest)=af (.bG ks us,[]):=
 ah (ob · λ t=>ob (iZ (x8 0 (.bG ks us::rest) 12) (QR 0 (.bG ks us::rest))) λ m'=>af (t,m')) (ah (ob · λ l=>af (AV.bG ks l)) hI:lO 0 (.bG ks us::rest) 12 (.own 0)=af (.bG ks us))
theorem Al{P:cC}{f:au}{vs:ae AV}{ks:ae (ae Int)}{us:ae AV}{rest:ae AO}(hI:iZ (lO 0 (.bG ks us::rest) 11) us=af us)(h:WC P f vs [] λ v m=>v= .own 0/\m= .bG ks us::rest):WC P f vs [] λ v m=>v= .bG ks us/\m=[]:=
 WC.fz (h.mono λ v m q=>⟨(.bG ks us,[]),q.1.symm▸q.2.symm▸TM hI,rfl,rfl⟩)
theorem Eh{P:cC}{vs:ae AV}{ks:ae (ae Int)}{us:ae AV}(hI:iZ (lO 0 [.bG ks us] 11) us=af us)(h:fh P 68 vs [] λ v m=>v= .own 0/\m=[.bG ks us]):WC P 68 vs [] λ v m=>v= .bG ks us/\m=[]:=
 Al hI (h.elim λ v z=>z.elim λ m z=>z.2.mono λ v' m' q=>⟨q.1.trans z.1.1,q.2.trans z.1.2⟩)
theorem Km(hd:1<=d){lf:au}{ks:ae (ae Int)}{cs:ae AV}(Xg:lK W X hX false 1 61 [.ex (jx pl dc ac a b)] []=af [(.ex (.lst (ks.map tH)),[])])(hr:∀f,ei f (ks.map tH)=ks.map tH)(hI:iZ (lO 0 [.bG ks cs] 11) cs=af cs)
  (h:∀K:Fl->St->Prop,(∀o5 o6,K .d7 ⟨[jx pl dc ac a b, .int 2, .int 5, .fn lf, .own 0,o5,o6],[.bG ks cs]⟩)->∃N,jo (e_ (PV W X hX (d+2) j cB)).set (gK (PV W X hX (d+2) j cB)).run N (.fz 0 (ks.map tH)) ⟨[jx pl dc ac a b, .int 2, .int 5, .fn lf, .own 0, .undef, .undef],[.bG [] []]⟩ K):
  WC (PV W X hX (d+3) j cB) 68 [jx pl dc ac a b, .int 2, .int 5, .fn lf] [] λ v m=>v= .bG ks cs/\m=[]:=
 Eh hI (qq (W:=W) (X:=X) (hX:=hX) (j:=j) (cB:=cB) (d:=d+1) (i:=6) (e:=fe 68 cm ["scan","n","most","size_of"] kX) rfl rfl rfl ⟨(.own 0,[.bG ks cs]),⟨rfl,rfl⟩,λ K hK=>
  nf (B:=WC (PV W X hX (d+2) j cB) 61 [jx pl dc ac a b] [.bG [] []] λ v m=>TJ (e_ (PV W X hX (d+2) j cB)).lp (e_ (PV W X hX (d+2) j cB)).set (gK (PV W X hX (d+2) j cB)).run v ⟨[jx pl dc ac a b, .int 2, .int 5, .fn lf, .own 0, .undef, .undef],m⟩
    (pD (iH (Ff (eW 4 p0) p0) lC:SS (PV W X hX (d+2) j cB) cm) (iE λ v m=>K (v,m)))) (by kernel_rfl) ((c61 (d:=d+1) Xg (λ aa=>rfl) hr (eE hd) _).known (h _ λ aa aa=>hK))⟩)
theorem OC(hd:1<=d){lf:au}{k s:Int}{vals:ae Int}(hk:(k=0/\vals=rQ)\/(k=1/\vals=Oe)){v0:Int}{r:ae Int}(hv:vals=v0::r){f:Int->Int}(Xg:lK W X hX false 1 61 [.ex (jx pl dc ac a b)] []=af [(.ex (.lst [tH [k,s]]),[])])
  (H:∀v∈vals,SO (PV W X hX (d+1) j cB) lf [[k,s]] [.int v] (f v)):WC (PV W X hX (d+3) j cB) 68 [jx pl dc ac a b, .int 2, .int 5, .fn lf] [] λ v m=>v= .bG [[k,s]] [.int (t9 f v0 r)]/\m=[]:=by
 subst hv
 exact Km (ks:=[[k,s]]) hd Xg (λ aa=>rfl) rfl λ K hK=>⟨2,mh (nI (pX (d:=d+1) (eE hd) (ks:=[]) (us:=[]) (.inl ⟨rfl,rfl⟩) hk (D7 (d:=d) (.inl ⟨rfl,rfl⟩) H) _ (jq (sy (hK _ _)))))⟩
theorem OD(hd:1<=d){lf:au}{f:Int->Int}{g:Int->Int->Int}(Xg:lK W X hX false 1 61 [.ex (jx pl dc ac a b)] []=af [(.ex (.lst [tH [0,0],tH [0,1]]),[])])
  (H:∀v∈rQ,SO (PV W X hX (d+1) j cB) lf [[0,0]] [.int v] (f v)) (H2:∀u∈rQ,∀v∈rQ,SO (PV W X hX (d+1) j cB) lf [[0,0],[0,1]] [.int u, .int v] (g u v)) {c:Int} (hc:c=t9 f 16 rQ.tail) (hm:c∈rQ):WC (PV W X hX (d+3) j cB) 68 [jx pl dc ac a b, .int 2, .int 5, .fn lf] [] λ v m=>v= .bG [[0,0],[0,1]] [.int c, .int (t9 (g c) 16 rQ.tail)]/\m=[]:=by
 have b1:=D7 (d:=d) (j:=j) (cB:=cB) (W:=W) (X:=X) (hX:=hX) (lf:=lf) (k:=0) (s:=0) (f:=f) (v0:=16) (r:=rQ.tail) (ks:=[]) (us:=[]) (.inl ⟨rfl,rfl⟩) H
 rw[← hc] at b1
 exact Km (ks:=[[0,0],[0,1]]) hd Xg (λ aa=>rfl) rfl λ K hK=>⟨3,mh (nI (pX (d:=d+1) (eE hd) (ks:=[]) (us:=[]) (.inl ⟨rfl,rfl⟩) (.inl ⟨rfl,rfl⟩) b1 _ (jq (mh (nI (pX (d:=d+1) (eE hd) (ks:=[[0,0]]) (us:=[.int c]) (.inr ⟨rfl,rfl,rfl,c,rfl⟩) (.inl ⟨rfl,rfl⟩) (D7 (d:=d) (f:=g c) (v0:=16) (r:=rQ.tail) (.inr ⟨rfl,rfl,rfl,c,rfl⟩) (H2 c hm)) _ (jq (sy (hK _ _)))))))))⟩
theorem OI{b:aC}{x y:Int}{r:ae Int}:aY b x y∈y::x::r:=by
 cases b
 ·exact .head _
 ·exact .tail _ (.head _)
theorem zC(f:Int->Int):∀(r:ae Int) (b:Int),t9 f b r∈b::r
 |[],b=> .head _
 |v::r,b=>(bW.mp (zC f r (aY (decide (f v < f b)) v b))).elim (λ e=>(ah (·∈b::v::r) e).mpr OI) λ h=> .tail _ (.tail _ h)
end
section
variable{prog:aK}{w:bw}{W:WK prog w}{X:BM->Prop}{hX:∀G G',dC G G'->X G->X G'}{d:Nat}{cB:xI}{pl dc ac:ae Int}{a b:Int}
theorem gX.up{P Q:cC}(x:P.Le Q){IV sc:AV}{ks:ae (ae Int)}{us:ae AV}{sz:Int}(h:gX P IV sc ks us sz):gX Q IV sc ks us sz:=by
 obtain⟨hi,v,xu,qg,r0,r1,q1,l1,q2,l2,z1,z2⟩:=h
 exact⟨hi,v,xu,qg,r0,r1,q1,l1,q2,l2,z1.up x,z2.up x⟩
def XN(prog:aK)(w:bw):aB:=(Bz (P0 prog w)).bA
theorem GG(P:cC):(Bz P).bA=XN prog w:=by kernel_rfl
theorem Ps{j:aC}:(Bz (PV W X hX (d+1) j cB)).b_=true:=by kernel_rfl
def XL(prog:aK)(w:bw)(X:BM->Prop)(lf:au)(iv sc:AV):BM->Prop:=λ G=>X G/\t5 (XN prog w) lf iv (.int 2) sc G
theorem yg{lf:au}{iv sc:AV}(hX:∀G G',dC G G'->X G->X G'):∀G G',dC G G'->XL prog w X lf iv sc G->XL prog w X lf iv sc G':=λ G G' g h=>⟨hX G G' g h.1,t5.up G G' g h.2⟩
theorem Ga(f:Nat->Nat):∀l:ae (Int×ae Int),ei f (l.map qR)=l.map qR
 |[]=>rfl
 |p::r=>by show AV.tup [.int p.1, .row p.2]::ei f (r.map qR)=_; rw[Ga f r]; rfl
theorem rX(f:Nat->Nat)(l:ae (ae (Int×ae Int))):el f (kY l)=kY l:=by
 have h:∀l:ae (ae (Int×ae Int)),ei f (l.map λ b=>AV.lst (b.map qR))=l.map λ b=>AV.lst (b.map qR):=by
  intro l
  induction l with
  |nil=>rfl
  |cons b r ih=>show AV.lst (ei f (b.map qR))::ei f _=_; rw[Ga,ih]; rfl
 show AV.lst (ei f _)=_
 rw[h]; rfl
theorem EO{lf:au}{bl:ae (ae (Int×ae Int))}{ks:ae (ae Int)}{us:ae AV}{sz:Int}(h:gX (PV W (XL prog w X lf (kY bl) (jx pl dc ac a b)) (yg hX) (d+1) true cB) (kY bl) (jx pl dc ac a b) ks us sz):
  SO (PV W (XL prog w X lf (kY bl) (jx pl dc ac a b)) (yg hX) (d+2) true cB) lf ks us sz:=λ M i hM=>by
 obtain⟨k,xu,qg,r0,r1,_,_,_,_,w1,w2⟩:=h.use hM (λ aa=>rfl) (λ f=>rX f bl)
 refine WC.lam (P:=PV W (XL prog w X lf (kY bl) (jx pl dc ac a b)) (yg hX) (d+1) true cB) (b:=Bz _) (λ G hG=>by rw[GG (prog:=prog) (w:=w)]; exact hG.2.2) Ps ?_
 conv=>whnf
 refine WC.mono w1 λ v m z=>?_
 obtain⟨rfl,rfl⟩:=z
 conv=>whnf
 refine WC.mono w2 λ v m z=>?_
 obtain⟨rfl,rfl⟩:=z
 exact⟨rfl,qg,r1,rfl⟩
theorem BU{j:aC}{i:Nat}{e:mx}(h:FL[i]?=af e)(h0:e.dm=0){vs:ae AV}{m:ae AO}{K:AV->ae AO->Prop}(hl:vs.length=e.xs.length)(r:(e.b (PV W X hX (d+1) j cB)).run ⟨fill e.ct.aR vs,m⟩ (iE K)):
  pa (PV W X hX (d+2) j cB) e.f vs m K:=by
 have he:=dy h
 obtain⟨dv,h1,h2⟩:=zI W (X:=X) (hX:=hX) (d:=d+1) (j:=j) (cB:=cB) (dH (FT++FJ) he)
 have hd:=h1 (λ aa=>none) []
 rw[h0] at hd
 have hd:dv=[]:=hd
 subst hd
 refine pa.fn (P:=PV W X hX (d+1) j cB) h2 (da:=[]) (λ aa aa=>bI.nil) (bj.mp (SG W) e he) (by simpa using hl) ?_
 rw[bQ]
 exact r
theorem Ug{lf:au}{iv sc:AV}:(PV W (XL prog w X lf iv sc) (yg hX) 23 true bP).Le ((PV W X hX 24 true bP).lam (Bz (PV W X hX 24 true bP)).bA lf iv (.int 2) sc):=
 ⟨rfl,rfl,by show 23<=24; decide, .inr rfl,λ G h=>⟨h.1.1,h.1.2,by have h2:=h.2; rw[GG (prog:=prog) (w:=w)] at h2; exact h2⟩⟩
theorem PGU{n:Nat}(h:20<=n):(PG W X hX).Le (PV W X hX n true cB):=⟨rfl,rfl,h, .inl rfl,λ aa h=>h⟩
theorem I0{fa wd iv:Int}{two:aC}{rv gv:AV}{R:ae (ae (ae (ae Int)))}{rows:ae (ae Int)}{bl:ae (ae (Int×ae Int))}(hG:mY R gv)(h:JI (PG W X hX) (ju fa two wd) pl iv rv gv rows bl){ks:ae (ae Int)}{us:ae AV}(hi:s9 us)
  (H:∀lf,WC (PV W (XL prog w X lf (kY bl) (jx pl dc ac a b)) (yg hX) 23 true bP) 68 [jx pl dc ac a b, .int 2, .int 5, .fn lf] [] λ v m=>v= .bG ks us/\m=[]):
  pa (PV W X hX 25 true bP) 682 [ju fa two wd,gv,jx pl dc ac a b, .int iv] [.tab] λ v m=>v= .bG ks us/\m=[.tab]:=by
 refine BU (d:=23) (i:=0) (e:=fe 682 gC ["frame","grid","scan","interval"] lV) rfl rfl rfl ?_
 obtain⟨ps,rfl,Pi⟩:=id hG
 conv=>whnf
 refine WC.mono (WC.anyM ((h.own dc ac a b).up (PGU (by decide))) (λ f=>?_) (λ f=>rX f bl) [.tab]) λ v m z=>?_
 ·show[el f (ju fa two wd),AV.inst 812 [28,29] [.int 4, .lst (ei f ps)],el f (jx pl dc ac a b), .int iv]=_
  rw[Pi.eQ]
  cases two<;>rfl
 obtain⟨rfl,rfl⟩:=z
 conv=>whnf
 refine⟨jx pl dc ac a b, .int 2,kY bl,ks,us,⟨⟨rfl,rfl,rfl⟩,⟨(λ e=>nomatch e),(λ e=>nomatch e),(λ e=>nomatch e)⟩,⟨λ f=>rX f bl,λ aa=>rfl,λ aa=>rfl⟩,hi,rfl,λ lf=>(H lf).up Ug⟩,?_⟩
 exact⟨rfl,rfl⟩
end
def feW:mx:=fe 897 cM ["scan","intervals"] hZ
def feL:mx:=fe 902 dK ["script"] vU
structure LK{prog:aK}{w:bw}(W:WK prog w):Prop where
 w1:Eu W.K feW=true
 w2:(fdOf W.K 897).body=gS (hZ (P0 prog w)).bA
 l1:Eu W.K feL=true
 l2:(fdOf W.K 902).body=gS (vU (P0 prog w)).bA
section
variable{prog:aK}{w:bw}{W:WK prog w}{X:BM->Prop}{hX:∀G G',dC G G'->X G->X G'}{d:Nat}{j:aC}{cB:xI}
theorem acM:Q_ ["scan","intervals"]:=λ fd vs=>by kernel_rfl
theorem abH:Q_ ["script"]:=λ fd vs=>by kernel_rfl
theorem Zo(P Q:cC):(hZ P).bA=(hZ Q).bA:=by kernel_rfl
theorem XM(P Q:cC):(vU P).bA=(vU Q).bA:=by kernel_rfl
theorem Zn:(hZ (PV W X hX (d+1) true cB)).b_=true:=by kernel_rfl
theorem XK:(vU (PV W X hX (d+1) true cB)).b_=true:=by kernel_rfl
theorem xh(L:LK W){vs:ae AV}{m:ae AO}{K:AV->ae AO->Prop}(hl:vs.length=2)(r:(hZ (PV W X hX (d+1) true cB)).run ⟨fill cM.aR vs,m⟩ (iE K)):
  WC (PV W X hX (d+2) true cB) 897 vs m K:=by
 have h:=D5 W (X:=X) (hX:=hX) (d:=d+1) (j:=true) (cB:=cB) (e:=feW) acM rfl L.w1 (L.w2.trans (ah gS (Zo _ _)))
 refine WC.fn (P:=PV W X hX (d+1) true cB) h (da:=[]) (λ aa aa=>bI.nil) Zn rfl (show vs.length+0=2 from hl) ?_
 rw[bQ]
 exact r
theorem Pv(L:LK W){vs:ae AV}{m:ae AO}{K:AV->ae AO->Prop}(hl:vs.length=1)(r:(vU (PV W X hX (d+1) true cB)).run ⟨fill dK.aR vs,m⟩ (iE K)):
  pa (PV W X hX (d+2) true cB) 902 vs m K:=by
 have h:=D5 W (X:=X) (hX:=hX) (d:=d+1) (j:=true) (cB:=cB) (e:=feL) abH rfl L.l1 (L.l2.trans (ah gS (XM _ _)))
 refine pa.fn (P:=PV W X hX (d+1) true cB) h (da:=[]) (λ aa aa=>bI.nil) XK (show vs.length+0=1 from hl) ?_
 rw[bQ]
 exact r
end
def Wu(k:Int):TV:= .tp (.ex (.int k)) acg
noncomputable def tlT:ae TV->TV
 |[]=> .ln
 |t::r=> .lc t (tlT r)
def ivT(l:ae (ae Int)):TV:=tlT (l.map λ b=>tlT (b.map Wu))
theorem Rw:∀{b:ae (Int×ae Int)},(∀p∈b,vM p.2)->GV (tlT ((b.map (·.1)).map Wu)) (.lst (b.map qR))
 |[],_=>rfl
 |p::r,h=>⟨_,_,rfl,⟨_,_,rfl,rfl,_,rfl,h p aW⟩,Rw λ q hq=>h q (aQ _ hq)⟩
theorem XE:∀{l:ae (ae (Int×ae Int))},(∀b∈l,∀p∈b,vM p.2)->GV (ivT (l.map (·.map (·.1)))) (kY l)
 |[],_=>rfl
 |b::r,h=>⟨_,_,rfl,Rw (h b aW),XE λ c hc=>h c (aQ _ hc)⟩
section
variable{prog:aK}{w:bw}{W:WK prog w}{X:BM->Prop}{hX:∀G G',dC G G'->X G->X G'}{pl ac:ae Int}
def szB(W:WK prog w)(X:BM->Prop)(hX:∀G G',dC G G'->X G->X G')(e:Kd)(sh ks:ae (ae Int)):aq e7:=Sm (lK W X hX true 9) (.ex e.sc) (ivT sh) ks (ks.map λ aa=> .rg e.lo e.hi)
def abF(W:WK prog w)(X:BM->Prop)(hX:∀G G',dC G G'->X G->X G')(e:Kd)(sh:ae (ae Int)):aC:=(Hf e.ks).all λ ks=>(szB W X hX e sh ks).isSome
abbrev VO(W:WK prog w)(X:BM->Prop)(hX:∀G G',dC G G'->X G->X G')(e:Kd):aC:=(Z_ e.two).all (abF W X hX e)
theorem kA:((EM pl ac).take 1).all (VO W X hX)=true:=by kernel_rfl
theorem kB:(((EM pl ac).drop 1).take 1).all (VO W X hX)=true:=by kernel_rfl
theorem kC:(((EM pl ac).drop 2).take 4).all (VO W X hX)=true:=by kernel_rfl
theorem kD:((EM pl ac).drop 6).all (VO W X hX)=true:=by kernel_rfl
theorem YX:(EM pl ac).all (VO W X hX)=true:=by
 show((EM pl ac).take 1++(((EM pl ac).drop 1).take 1++(((EM pl ac).drop 2).take 4++(EM pl ac).drop 6))).all (VO W X hX)=true
 rw[xj,xj,xj,kA,kB,kC,kD]
 rfl
theorem QD{e:Kd}(he:e∈EM pl ac){sh ks:ae (ae Int)}(hs:sh∈Z_ e.two)(hk:ks∈Hf e.ks):szB W X hX e sh ks=af ():=
 (js.mp (bj.mp (bj.mp (bj.mp (YX (W:=W) (X:=X) (hX:=hX)) e he) sh hs) ks hk)).elim λ aa z=>z
end
noncomputable abbrev Jq:Type:=(Int×aC×Int)×ae Int×Int
def sF:ae Jq:=iY.flatMap λ c=>(placesOf c.2.1).flatMap λ pl=>[(c,pl,0),(c,pl,1),(c,pl,2)]
theorem Lv{c:Int×aC×Int}{pl:ae Int}{iv:Int}(hc:c∈iY)(hp:pl∈placesOf c.2.1)(hi:iv=0\/iv=1\/iv=2):(c,pl,iv)∈sF:=
 uW.mpr ⟨c,hc,uW.mpr ⟨pl,hp,hi.elim (λ e=>e▸ .head _) λ h=> .tail _ (h.elim (λ e=>e▸ .head _) λ e=>e▸ .tail _ (.head _))⟩⟩
noncomputable def par(m s:Nat):Nat:=(m+s - 1) / s
def unitsOf(c:Int×aC×Int)(pl:ae Int):ae (ae (Int×Int×Nat)):=match pl with
 |[p]=>(eu (par (aY (p==0) c.2.2.toNat (par c.2.2.toNat c.1.toNat)) 2)).map λ i=>[(0,p,i)]
 |_=>(eu (par c.2.2.toNat (2 * c.1.toNat))).map λ u=>(eu c.1.toNat).map (λ j=>(0,0,c.1.toNat * u+j))++[(1,1,u)]
def xg(k:Jq):ae AV:=(unitsOf k.1 k.2.1).map λ u=> .lst (u.map λ b=> .tup [.int b.1, .int b.2.1, .int (b.2.2:Nat), .int 0])
noncomputable def chunk{α:Type}(s:Nat):Nat->ae (ae α)->ae (ae α)
 |0,_=>[]
 |f+1,l=>aY l.isEmpty [] ((l.take s).flatten::chunk s f (l.drop s))
def ZK(k:Jq):ae (ae (Int×Nat)):=(chunk (aY (k.2.2==0) (unitsOf k.1 k.2.1).length k.2.2.toNat) (unitsOf k.1 k.2.1).length (unitsOf k.1 k.2.1)).map (·.map λ b=>(b.1,aY (b.2.1==0) b.2.2 ((bg k.1).1+b.2.2)))
def rwN(k:Jq):Nat:=(bg k.1).1+(bg k.1).2
def Qt(ρ:Nat->ae Int)(k:Jq):ae (ae Int):=(eu (rwN k)).map ρ
def H8(ρ:Nat->ae Int)(k:Jq):ae (ae (Int×ae Int)):=(ZK k).map (·.map λ p=>(p.1,ρ p.2))
def NC(k:Jq):AV:=ju k.1.1 k.1.2.1 k.1.2.2
def grK(ρ:Nat->ae Int)(k:Jq):ae (ae (ae (ae Int))):=n9 k.1.2.1 (bg k.1).1 (Qt ρ k)
def rvK(ρ:Nat->ae Int)(k:Jq):AV:=og k.1.2.1 (bg k.1).1 (bg k.1).2 (Qt ρ k)
def ueL(P:cC)(a b c:AV):Nat->ae AV->ae (aq (ae (TV×AS)))
 |_,[]=>[]
 |i,_::r=>(Vp P).ab ⟨[.ex a, .ex b, .ex c, .ex (.int i)],[]⟩::ueL P a b c (i+1) r
noncomputable def ueR(a b c:AV):Nat->ae AV->ae (aq (ae (TV×AS)))
 |_,[]=>[]
 |i,v::r=>af [(.ex v,⟨[.ex a, .ex b, .ex c, .ex (.int i)],[]⟩)]::ueR a b c (i+1) r
theorem Rg{P:cC}{a b c:AV}:∀{l:ae AV} {i:Nat},ueL P a b c i l=ueR a b c i l->UE P a b c i l
 |[],_,_=>trivial
 |_::_,_,h=>⟨A8 h,Rg (A9 h)⟩
def okK(k:Jq):aC:=fK 0 (xg k).length&&(Builtin.Range.small 0 ((xg k).length:Nat) 1&&(decide ((ZK k).map (·.map (·.1))∈oh k.2.1)&&(ZK k).all (·.all λ p=>fK p.2 (rwN k))))
theorem P2:sF.all okK=true:=by decide+kernel
theorem Cv{α:Type}(d:α):∀l:ae α,(eu l.length).map (λ i=>l.getD i d)=l:=λ l=>List.ext_getElem (by simp) λ i h1 h2=>by simp [h2]
section
variable{prog:aK}{w:bw}{W:WK prog w}{X:BM->Prop}{hX:∀G G',dC G G'->X G->X G'}{dc ac:ae Int}{s e:Int}{ρ:Nat->ae Int}
theorem u_0:(sF.map λ k=>(Du (PN W X hX false 5)).ab ⟨[.ex (NC k), .ex (jx k.2.1 dc ac s e), .ex .undef, .ex .undef],[]⟩)=sF.map λ k=>af [(.d7,⟨[.ex (NC k), .ex (jx k.2.1 dc ac s e), .ex (.int (xg k).length), .ex .undef],[]⟩)]:=by kernel_rfl
theorem u_1:(sF.map λ k=>(Dt (PN W X hX false 5)).ab ⟨[.ex (NC k), .ex (jx k.2.1 dc ac s e), .ex (.int (xg k).length), .ex .undef],[]⟩)=sF.map λ k=>af [(.ex (.j6 0 ((xg k).length:Nat) 1),⟨[.ex (NC k), .ex (jx k.2.1 dc ac s e), .ex (.int (xg k).length), .ex .undef],[]⟩)]:=by kernel_rfl
theorem u_2:(sF.map λ k=>ueL (PN W X hX false 5) (NC k) (jx k.2.1 dc ac s e) (.int (xg k).length) 0 (xg k))=sF.map λ k=>ueR (NC k) (jx k.2.1 dc ac s e) (.int (xg k).length) 0 (xg k):=by kernel_rfl
theorem u_3:(sF.map λ k=>ivB (PN W X hX false 6) (NC k) (jx k.2.1 dc ac s e) (grK ρ k) k.2.2 (xg k))=sF.map λ k=>af [(.ex (kY (H8 ρ k)),[])]:=by kernel_rfl
theorem u_4:(sF.map λ k=>lK W X hX false 5 892 [.ex (NC k), .ex (jx k.2.1 dc ac s e), .ex (rvK ρ k), .ex (.int k.2.2)] [])=sF.map λ k=>af [(.ex (kY (H8 ρ k)),[])]:=by kernel_rfl
theorem abA(U:UK W){k:Jq}(hk:k∈sF){gv:AV}(hG:mY (grK ρ k) gv):JI (PG W X hX) (NC k) k.2.1 k.2.2 (rvK ρ k) gv (Qt ρ k) (H8 ρ k):=
 have c1:=aG (bj.mp P2 k hk); have c2:=aG c1.2; have c3:=aG c2.2
 XF U hG (mz c1.1) c2.1 (λ dc ac s e=>⟨rY u_0 k hk,rY u_1 k hk,Rg (rY u_2 k hk)⟩) (λ dc ac s e=>rY u_3 k hk) (λ dc ac s e=>rY u_4 k hk)
  ((ah (·∈oh k.2.1) (show(H8 ρ k).map (·.map (·.1))=(ZK k).map (·.map (·.1)) by unfold H8; rw[tW]; exact se λ b aa=>tW)).mpr (a4 c3.1))
  λ b hb p hp=>(dM.mp hb).elim λ b' ZT=>(dM.mp (show p∈b'.map λ p=>(p.1,ρ p.2) from ZT.2.symm▸hp)).elim λ q hq=>hq.2▸g7 (qX.mpr (mz (bj.mp (bj.mp c3.2 b' ZT.1) q hq.1)))
theorem abC(U:UK W){k:Jq}(hk:k∈sF){gv:AV}{r:ae (ae Int)}(e:Qt ρ k=r)(hG:mY (n9 k.1.2.1 (bg k.1).1 r) gv):JI (PG W X hX) (NC k) k.2.1 k.2.2 (og k.1.2.1 (bg k.1).1 (bg k.1).2 r) gv r (H8 ρ k):=by
 subst e
 exact abA U hk hG
theorem T9(U:UK W){c:Int×aC×Int}(hc:c∈iY){cs:ae (aC×ae Int)}(hl:cs.length=(bg c).1+(bg c).2)(h:∀c∈cs,ny c){pl:ae Int}(hp:pl∈placesOf c.2.1){iv:Int}(hi:iv=0\/iv=1\/iv=2):
  ∃bl,JI (PG W X hX) (ju c.1 c.2.1 c.2.2) pl iv (og c.2.1 (bg c).1 (bg c).2 (cs.map (·.2))) (sA c.2.1 (bg c).1 cs) (cs.map (·.2)) bl:=
 ⟨_,abC U (Lv hc hp hi) (ρ:=λ i=>(cs.map o9).getD i []) ((ah (λ n=>(eu n).map λ i=>(cs.map o9).getD i []) (hl.symm.trans (bJ _).symm)).trans (Cv [] (cs.map o9))) (zV h)⟩
end
section
variable{prog:aK}{w:bw}(W:WK prog w)
def PS:cC:=(PN W (λ aa=>True) (λ aa aa aa h=>h) true 9).dn
def H3(IV sc:AV)(ks:ae (ae Int))(us:ae Int):Prop:=∃sz,gX (PS W) IV sc ks (bU us) sz
def Vd(IV sc:AV)(ks:ae (ae Int))(us:ae Int):Int:=Classical.epsilon λ sz=>gX (PS W) IV sc ks (bU us) sz
theorem Av{IV sc:AV}{ks:ae (ae Int)}{us:ae Int}(h:H3 W IV sc ks us):gX (PS W) IV sc ks (bU us) (Vd W IV sc ks us):=Classical.epsilon_spec h
def R61(c:t8)(ks:ae (ae Int)):Prop:=∀{prog:aK} {w:bw} (W:WK prog w) X hX,lK W X hX false 1 61 [.ex c.v] []=af [(.ex (.lst (ks.map tH)),[])]
structure JL(bl:ae (ae (Int×ae Int)))(c:t8)(k s:Int)(vals:ae Int):Prop where
 hk:(k=0/\vals=rQ)\/(k=1/\vals=Oe)
 r:R61 c [[k,s]]
 z:∀v∈vals,H3 W (kY bl) c.v [[k,s]] [v]
structure Re(bl:ae (ae (Int×ae Int)))(c:t8):Prop where
 r:R61 c [[0,0],[0,1]]
 z:∀v∈rQ,H3 W (kY bl) c.v [[0,0]] [v]
 y:∀u∈rQ,∀v∈rQ,H3 W (kY bl) c.v [[0,0],[0,1]] [u,v]
end
theorem Rs:∀v∈Oe,1<=v/\v<=3:=by decide
theorem wb:∀v∈rQ,0<=v/\v<=85:=by decide
section
variable{prog:aK}{w:bw}{W:WK prog w}{bl:ae (ae (Int×ae Int))}{pl ac:ae Int}{e:Kd}{c:t8}{vals:ae Int}
theorem sa(he:e∈EM pl ac)(hc:e.sc=c.v):R61 c e.ks:=λ W X hX=>hc▸rY r61 e he
theorem oM{l u v:Int}(h:l<=v/\v<=u):GV (.rg l u) (.int v):=⟨v,rfl,h⟩
theorem uz(he:e∈EM pl ac)(hc:e.sc=c.v){ks:ae (ae Int)}(hk:ks∈Hf e.ks)(hs:bl.map (·.map (·.1))∈Z_ e.two)(hr:∀b∈bl,∀p∈b,vM p.2){us:ae Int}(hu:dD (ks.map λ aa=> .rg e.lo e.hi) (bU us)):H3 W (kY bl) c.v ks us:=
 hc▸QE (W:=W) (X:=λ aa=>True) (hX:=λ aa aa aa h=>h) (QD he hs hk) rfl (XE hr) hu
inductive FX(W:WK prog w)(bl:ae (ae (Int×ae Int)))(c:t8):ae (ae Int)->ae Int->Prop
 |one {k s:Int} {vals:ae Int} (h:JL W bl c k s vals) {v0:Int} {r:ae Int} (hv:vals=v0::r):FX W bl c [[k,s]] [t9 (λ v=>Vd W (kY bl) c.v [[k,s]] [v]) v0 r]
 |two (h:Re W bl c) {x:Int} (hx:x=t9 (λ v=>Vd W (kY bl) c.v [[0,0]] [v]) 16 rQ.tail):FX W bl c [[0,0],[0,1]] [x,t9 (λ v=>Vd W (kY bl) c.v [[0,0],[0,1]] [x,v]) 16 rQ.tail]
theorem FW{Y:BM->Prop}{hY:∀G G',dC G G'->Y G->Y G'}{n:Nat}(h:18<=n){cB:xI}:(PS W).Le (PV W Y hY n true cB):=⟨rfl,rfl,h, .inr rfl,λ G g=>⟨g.1,trivial⟩⟩
theorem Bo:∀l:ae Int,s9 (bU l)
 |[]=>trivial
 |x::r=>⟨⟨x,rfl⟩,Bo r⟩
theorem Ko{X:BM->Prop}{hX:∀G G',dC G G'->X G->X G'}{ks:ae (ae Int)}{cs:ae Int}(h:FX W bl c ks cs)(lf:au):
  WC (PV W (XL prog w X lf (kY bl) c.v) (yg hX) 23 true bP) 68 [c.v, .int 2, .int 5, .fn lf] [] λ v m=>v= .bG ks (bU cs)/\m=[]:=by
 cases h with
 |one h hv=>exact OC (d:=20) (by decide) h.hk hv (h.r _ _ _) λ v hm=>EO (hX:=hX) (d:=19) ((Av W (h.z v hm)).up (FW (by decide)))
 |two h hx=>exact OD (d:=20) (by decide) (g:=λ x v=>Vd W (kY bl) c.v [[0,0],[0,1]] [x,v]) (h.r _ _ _) (λ v hm=>EO (hX:=hX) (d:=19) ((Av W (h.z v hm)).up (FW (by decide)))) (λ u hu v hm=>EO (hX:=hX) (d:=19) ((Av W (h.y u hu v hm)).up (FW (by decide)))) hx (hx▸zC _ _ _)
end
def mg(f:ae (ae Int)×ae Int):ae (ae Int)->ae Int->ae (ae Int)×ae Int
 |k::ks,c::cs=>mg (aY (py f.1 k) f (f.1++[k],f.2++[c])) ks cs
 |_,_=>f
theorem RE{b x:aC}(h:aY b true x=false):b=false/\x=false:=by
 cases b
 ·exact⟨rfl,h⟩
 ·exact ay h
theorem y2:∀{ks:ae (ae Int)} {k:ae Int},py ks k=false->rc ks k=ks++[k]
 |[],_=>λ aa=>rfl
 |x::r,k=>λ h=>have h:=RE h; (mH h.1).trans (ah (x::·) (y2 h.2))
theorem y3:∀{ks:ae (ae Int)} {vs:ae AV} {k:ae Int} {u:AV},py ks k=false->ks.length=vs.length->wN ks vs k u=vs++[u]
 |[],[],_,_=>λ aa aa=>rfl
 |_::_,[],_,_=>λ aa l=>bt l (cx _)
 |[],_::_,_,_=>λ aa l=>bt l.symm (cx _)
 |x::r,v::vs,k,u=>λ h l=>have h:=RE h; (k_ h.1).trans (ah (v::·) (y3 h.2 (eG l)))
theorem yM:∀l:ae Int,(bU l).length=l.length
 |[]=>rfl
 |_::r=>ah (·+1) (yM r)
theorem yL:∀(l:ae Int) (c:Int),bU (l++[c])=bU l++[.int c]
 |[],_=>rfl
 |x::r,c=>ah (AV.int x::·) (yL r c)
inductive Bp:ae (ae Int)->ae Int->Prop
 |one (k s c:Int):Bp [[k,s]] [c]
 |two (x y:Int):Bp [[0,0],[0,1]] [x,y]
noncomputable abbrev FS:Type:=ae (ae Int)×ae Int
def X2(f:FS)(k:ae Int)(c:Int):FS:=aY (py f.1 k) f (f.1++[k],f.2++[c])
structure Jp(f:FS)(n:Nat):Prop where
 e:f.1.length=f.2.length
 l:f.1.length<=n
theorem Jp.o{f:FS}{n:Nat}{k:ae Int}{c:Int}(h:Jp f n):Jp (X2 f k c) (n+1):=by
 show Jp (aY (py f.1 k) f (f.1++[k],f.2++[c])) (n+1)
 cases py f.1 k with
 |true=>exact⟨h.e,uE h.l⟩
 |false=>exact⟨bh.trans ((ah (·+1) h.e).trans (bh (as:=f.2) (bs:=[c])).symm),aF (aT bh) (eE h.l)⟩
theorem Jp.m{f:FS}{n:Nat}{ks:ae (ae Int)}{cs:ae Int}(h:Jp f n)(k:Bp ks cs):Jp (mg f ks cs) (n+2):=by
 cases k with
 |one k s c=>exact⟨h.o.e,uE h.o.l⟩
 |two x y=>exact h.o.o
def mgK(f:FS)(k:ae Int)(o:aq AV)(C:ae (ae Int)->ae AV->Prop):Prop:=aY (true !=py f.1 k) (II o λ v=>cJ (bB f.1.length 1000) (C (rc f.1 k) (wN f.1 (bU f.2) k v))) (C f.1 (bU f.2))
theorem EY{f:FS}{k:ae Int}{o:aq AV}{c:Int}{C:ae (ae Int)->ae AV->Prop}{n:Nat}(ho:o=af (.int c))(hf:Jp f n)(hn:n<=1000)(h:C (X2 f k c).1 (bU (X2 f k c).2)):mgK f k o C:=by
 unfold mgK
 unfold X2 at h
 rw[ho]
 cases e:py f.1 k with
 |true=>rw[e] at h; exact h
 |false=>
  rw[e] at h
  exact cJ.i (cY (aF hf.l hn)) (y2 e▸y3 (u:= .int c) e (hf.e.trans (yM _).symm)▸yL f.2 c▸h)
theorem rT{set:AV->St->(St->Prop)->Prop}{b:Body}{n k:Nat}{v:ae Int}{r:ae (ae Int)}{σ:St}{K:Fl->St->Prop}(h:set (.tup (bU v)) σ λ aI=>b aI λ f aU=>r7 f aU (λ dz=>jo set b n (.keys (k+1) r) dz K) K):jo set b (n+1) (.keys k (v::r)) σ K:=h
theorem yH{set:AV->St->(St->Prop)->Prop}{b:Body}{n k:Nat}{σ:St}{K:Fl->St->Prop}(h:K .d7 σ):jo set b (n+1) (.keys k []) σ K:=h
theorem PA(k s:Int)(c:AV):wB [[k,s]] [c] [k,s]=af c:=ah (aY · (af c) none) ((OU _ _).trans (cy rfl):si [k,s] [k,s]=true)
theorem GE{set:AV->St->(St->Prop)->Prop}{bd:Body}{ks:ae (ae Int)}{cs:ae Int}{S:AV->ae (ae Int)->ae AV->St}(hk:Bp ks cs)(ht:∀x a b f (K:Fl->St->Prop),mgK f [a,b] (wB ks (bU cs) [a,b]) (λ u v=>K .d7 (S (tH [a,b]) u v))->set (tH [a,b]) (S x f.1 (bU f.2)) λ σ=>bd σ K)
  {f:FS} {n:Nat} (hf:Jp f n) (hn:n+2<=1000) {o:AV} {K:Fl->St->Prop} (hK:∀o,K .d7 (S o (mg f ks cs).1 (bU (mg f ks cs).2))):jo set bd 3 (.keys 0 ks) (S o f.1 (bU f.2)) K:=by
 have h0:=aF (bq n 2) hn
 cases hk with
 |one k s c=>exact rT (ht o k s f _ (EY (PA k s (.int c)) hf h0 (yH (hK _))))
 |two x y=>exact rT (ht o 0 0 f _ (EY (c:=x) rfl hf h0 (rT (ht _ 0 1 (X2 f [0,0] x) _ (EY (c:=y) rfl hf.o (Nat.le_of_succ_le hn) (yH (hK _)))))))
structure AX where
 p:t8
 ks:ae (ae Int)
 cs:ae Int
noncomputable def AX.v(o:AX):AV:=jx o.p.1 o.p.2.1 o.p.2.2.1 o.p.2.2.2.1 o.p.2.2.2.2
def GX(f:FS)(l:ae AX):FS:=l.foldl (λ f o=>mg f o.ks o.cs) f
theorem J4{α:Type}(pre:ae α)(p:α)(r:ae α):(pre++p::r)[pre.length]?=af p:=(eL (cE _)).trans (by rw[Nat.sub_self]; rfl)
theorem KQ{set:AV->St->(St->Prop)->Prop}{b:Body}{n p k:Nat}{v:AV}{xs:ae AV}{σ:St}{K:Fl->St->Prop}(hm:bK σ.mem p=af (.lst xs))(e:nJ xs k=af v)(h:set v σ λ aI=>b aI λ f aU=>r7 f aU (λ dz=>jo set b n (.own p (k+1)) dz K) K):jo set b (n+1) (.own p k) σ K:=by
 refine dF hm ?_
 dsimp only
 rw[e]
 exact h
theorem Il{set:AV->St->(St->Prop)->Prop}{b:Body}{n p k:Nat}{xs:ae AV}{σ:St}{K:Fl->St->Prop}(hm:bK σ.mem p=af (.lst xs))(e:nJ xs k=none)(h:K .d7 σ):jo set b (n+1) (.own p k) σ K:=by
 refine dF hm ?_
 dsimp only
 rw[e]
 exact h
theorem wT{set:AV->St->(St->Prop)->Prop}{bd:Body}{p:Nat}{α:Type}{S:α->FS->St}{A:AX->Prop}{xs:ae AX}(hm:∀a f,bK (S a f).mem p=af (.lst (xs.map (·.v))))(hA:∀o,A o->Bp o.ks o.cs)
  (ht:∀o a f n (K:Fl->St->Prop),A o->Jp f n->n+2<=1000->(∀a,K .d7 (S a (mg f o.ks o.cs)))->set o.v (S a f) λ σ=>bd σ K) {K:Fl->St->Prop}:∀(l pre:ae AX) (i:Nat) (a:α) (f:FS) (n:Nat),xs=pre++l->i=pre.length->Jp f n->n+2 * l.length+2<=1000->(∀o∈l,A o)->
  (∀a,K .d7 (S a (GX f l)))->jo set bd (l.length+1) (.own p i) (S a f) K
 |[],pre,i,a,f,n,hx,hi,_,_,_,hK=>Il (hm a f) ((qx _ _).trans (eZ (aT ((bJ _).trans ((ah fU (hx.trans (bQ pre))).trans hi.symm))))) (hK a)
 |o::r,pre,i,a,f,n,hx,hi,hf,hn,H,hK=>KQ (v:=o.v) (hm a f) ((qx _ _).trans (eM.trans (ah _ (hx▸hi▸J4 pre o r))))
   (ht o a f n _ (H o aW) hf (aF (bq (n+2) (2 * r.length+2)) (aF (aT (by rw[cT n 2,← Nat.add_assoc]; rfl)) hn)) λ a=>wT hm hA ht r (pre++[o]) (i+1) a (mg f o.ks o.cs) (n+2) (hx.trans (List.append_cons pre o r)) (hi▸(bh (as:=pre) (bs:=[o])).symm)
    (hf.m (hA o (H o aW))) (aF (aT (ah (·+2) (cT n 2 _))) hn) (λ o h=>H o (aQ _ h)) hK)
theorem pa.known{P:cC}{f:au}{dr:ae AV}{mem CF:ae AO}{s6:AV}{K:AV->ae AO->Prop}(h:pa P f dr mem λ v m=>v=s6/\m=CF)(k:K s6 CF):pa P f dr mem K:=pa.mono h λ aa aa q=>q.1.symm▸q.2.symm▸k
theorem pa.acA{P:cC}{f:au}{dr:ae AV}{s6:AV}(h:pa P f dr [.tab] λ v m=>v=s6/\m=[.tab])(ca:∀f,ei f dr=dr)(cv:∀f,el f s6=s6)(M:ae AO):pa P f dr (.tab::M) λ v m=>v=s6/\m= .tab::M:=
 ca (eQ [0] (M.length+1))▸pa.mono (pa.BS h [0] (.tab::M) rfl (by decide) rfl λ i j ao hi hj=>match i,hi,hj with
  |0,hi,hj=>ak hi▸ak hj▸rfl) λ v m z=>z.elim λ v1 z=>z.elim λ m1 z=>⟨z.2.1.trans ((ah (el _) z.1.1).trans (cv _)),z.2.2.1.trans (z.1.2▸bQ _)⟩
theorem rU{fa wd:Int}{two:aC}(f:Nat->Nat):el f (ju fa two wd)=ju fa two wd:=by cases two<;>rfl
theorem sR(f:Nat->Nat):∀l:ae Int,ei f (bU l)=bU l
 |[]=>rfl
 |x::r=>ah (AV.int x::·) (sR f r)
theorem My{f:Nat->Nat}{x y:AV}{l:ae AV}(hx:el f x=x)(hy:el f y=y)(hl:ei f l=l):ei f (x::y::l)=x::y::l:=by
 show el f x::el f y::ei f l=_
 rw[hx,hy,hl]
noncomputable def gI(ps:ae AV):AV:= .inst 812 [28,29] [.int 4, .lst ps]
theorem zS{ps:ae AV}{f:Nat->Nat}(h:ei f ps=ps):el f (gI ps)=gI ps:=ah gI h
section
variable{prog:aK}{w:bw}{W:WK prog w}{X:BM->Prop}{hX:∀G G',dC G G'->X G->X G'}{n:Nat}{fa wd:Int}{two:aC}{ps:ae AV}{iv:Int}
structure ZD(P:cC)(fr g:AV)(iv:Int)(o:AX):Prop where
 k:Bp o.ks o.cs
 w:pa P 682 [fr,g,o.v, .int iv] [.tab] λ v m=>v= .bG o.ks (bU o.cs)/\m=[.tab]
noncomputable def ZR(fr g:AV)(iv:Int)(a5 a6 a7:AV):ae AV:=[fr,g, .own 1, .int iv, .own 2,a5,a6,a7]
def gcR(P:cC)(loc:ae AV)(m:ae AO)(K:Fl->St->Prop):Prop:=(YN (oU P) (eW 6 p0) (oQ P) p0).run ⟨loc,m⟩ K
theorem TW(EE:∀f,ei f ps=ps)(l:ae AX)(hl:l.length < 100)(H:∀o∈l,ZD (PV W X hX (n+1) true bP) (ju fa two wd) (gI ps) iv o):
  pa (PV W X hX (n+2) true bP) 689 [ju fa two wd,gI ps, .own 1, .int iv] [.tab, .lst (l.map (·.v))] λ v m=>v= .own 2/\m=[.tab, .lst (l.map (·.v)), .bG (GX ([],[]) l).1 (bU (GX ([],[]) l).2)]:=
 BU (d:=n) (i:=1) (e:=fe 689 bT ["frame","grid","scans","interval"] lU) rfl rfl rfl (nf (B:=∃N,jo (oV (PV W X hX (n+1) true bP)).set (oR (PV W X hX (n+1) true bP)).run N (.own 1 0) ⟨ZR (ju fa two wd) (gI ps) iv .undef .undef .undef,[.tab, .lst (l.map (·.v)), .bG [] []]⟩
   (pD (iH (Ff (eW 4 p0) p0) lC:SS (PV W X hX (n+1) true bP) bT) (iE λ v m=>v= .own 2/\m=[.tab, .lst (l.map (·.v)), .bG (GX ([],[]) l).1 (bU (GX ([],[]) l).2)]))) (by kernel_rfl)
  ⟨_,wT (p:=1) (S:=λ(a:AV×AV×AV) f=>⟨ZR (ju fa two wd) (gI ps) iv a.1 a.2.1 a.2.2,[.tab, .lst (l.map (·.v)), .bG f.1 (bU f.2)]⟩) (λ aa aa=>rfl) (λ aa h=>h.k) (λ o a f m K hA hf hm hK=>
    nf (B:=pa (PV W X hX (n+1) true bP) 682 [ju fa two wd,gI ps,o.v, .int iv] [.tab, .lst (l.map (·.v)), .bG f.1 (bU f.2)] λ v m=>gcR (PV W X hX (n+1) true bP) (ZR (ju fa two wd) (gI ps) iv o.v v a.2.2) m λ f σ=>r7 f σ (λ σ=>K .d7 σ) K) (by kernel_rfl)
     ((hA.w.acA (λ f=>My (rU f) (zS (EE f)) rfl) (λ f=>ah (AV.bG o.ks) (sR f _)) _).known
      ⟨3,GE (S:=λ x u v=>⟨ZR (ju fa two wd) (gI ps) iv o.v (.bG o.ks (bU o.cs)) x,[.tab, .lst (l.map (·.v)), .bG u v]⟩) hA.k (λ x a b f K h=>nf (by kernel_rfl) h) hf hm λ x=>hK (_,_,x)⟩))
   l [] 0 (.undef, .undef, .undef) ([],[]) 0 rfl rfl ⟨rfl,cE _⟩ (aF (fC (aF (aT (fm _)) (jB 2 (eU hl))) 2) (by decide)) H λ aa=>⟨rfl,rfl⟩⟩)
end
section
variable{prog:aK}{w:bw}{W:WK prog w}{X:BM->Prop}{hX:∀G G',dC G G'->X G->X G'}{d:Nat}{cB:xI}{bl:ae (ae (Int×ae Int))}{pl dc ac:ae Int}{a b:Int}
noncomputable def md(l:ae (Int×Int)):ae AV:=l.map λ p=> .tup [.int p.1, .int p.2]
theorem Hy(l:ae (Int×Int))(i:Nat):nJ (md l) i=l[i]?.map λ p=> .tup [.int p.1, .int p.2]:=(qx _ _).trans eM
theorem Hz(f:Nat)(m:ae AO)(n:Nat):∀l:ae (Int×Int),iZ (lO f m (n+2)) (md l)=af (md l)
 |[]=>rfl
 |p::r=>bV (rfl:lO f m (n+2) (.tup [.int p.1, .int p.2])=af (.tup [.int p.1, .int p.2])) (Hz f m n r)
theorem Gb(f:Nat)(m:ae AO)(n:Nat):∀l:ae (Int×ae Int),iZ (lO f m (n+2)) (l.map qR)=af (l.map qR)
 |[]=>rfl
 |p::r=>bV rfl (Gb f m n r)
theorem GD(f:Nat)(m:ae AO):∀l:ae (ae (Int×ae Int)),iZ (lO f m 11) (l.map λ b=>AV.lst (b.map qR))=af (l.map λ b=>AV.lst (b.map qR))
 |[]=>rfl
 |b::r=>bV (ah (ob · λ l=>af (AV.lst l)) (Gb f m 8 b)) (GD f m r)
theorem T_(f:Nat)(m:ae AO)(l:ae (ae (Int×ae Int))):lO f m 12 (kY l)=af (kY l):=ah (ob · λ l=>af (AV.lst l)) (GD f m l)
def pO(a:AV):Prop:=a= .undef\/∃x,a= .int x
theorem pO.res{a:AV}(h:pO a)(n:Nat)(m:ae AO):lO n m 12 a=af a:=by
 rcases h with rfl|⟨x,rfl⟩<;>rfl
noncomputable def mV(pl dc ac:ae Int)(a b:Int)(bl:ae (ae (Int×ae Int)))(k s:Int)(a5 o6 a7 le:AV):ae AV:=[jx pl dc ac a b,kY bl, .own 0, .int k, .int s,a5,o6,a7,le]
theorem GR{n:Nat}{m:ae AO}{k s:Int}{a5 o6 le:AV}(h5:lO (n+1) m 12 a5=af a5)(h6:pO o6)(hl:pO le):iZ (lO (n+1) m 12) (mV pl dc ac a b bl k s a5 o6 .undef le)=af (mV pl dc ac a b bl k s a5 o6 .undef le):=
 bV rfl (bV (T_ _ _ bl) (bV rfl (bV rfl (bV rfl (bV h5 (bV (h6.res _ _) (bV rfl (bV (hl.res _ _) rfl))))))))
noncomputable def wM(k s:Int)(ks:ae (ae Int))(us:ae AV)(v:Int)(sl:ae Int)(l:ae (Int×Int)):ae AO:=[.bG ks us, .il sl, .lst (md l), .bG (ks++[[k,s]]) (us++[.int v])]
theorem ID{P:cC}{v:AV}{σ:St}{K:St->Prop}(h:K (σ.set 6 v)):(jw P).set v σ K:=h
def wtE(P:cC)(sc IV:AV)(loc:ae AV)(v:Int)(M:ae AO)(K:Fl->St->Prop):Prop:=WC P 640 [sc, .int 2, .own 3] M λ u m=>WC P 49 [IV,u] m λ u m=>tw "list.append" (.own 2) [.tup [u, .int v]] ⟨loc,m⟩ (λ aa σ=>KU 3 (Gr.getD 2 []) K .d7 σ)/\("list.append"="bytearray.append"->false=true)
theorem Zq{k s v z:Int}{ks:ae (ae Int)}{us:ae AV}(sC:Pre k s ks us){sl:ae Int}{l:ae (Int×Int)}(hl:l.length<=1000){le:AV}(hle:pO le)(H:gX (PV W X hX (d+1) true cB) (kY bl) (jx pl dc ac a b) (ks++[[k,s]]) (us++[.int v]) z)(K:Fl->St->Prop)
  (hK:K .d7 ⟨mV pl dc ac a b bl k s (.own 2) (.int v) .undef le,[.bG ks us, .il sl, .lst (md (l++[(z,v)]))]⟩):
  (jv (PV W X hX (d+1) true cB)).run ⟨mV pl dc ac a b bl k s (.own 2) (.int v) .undef le,[.bG ks us, .il sl, .lst (md l)]⟩ K:=
 have e:(jv (PV W X hX (d+1) true cB)).run ⟨mV pl dc ac a b bl k s (.own 2) (.int v) .undef le,[.bG ks us, .il sl, .lst (md l)]⟩ K=wtE (PV W X hX (d+1) true cB) (jx pl dc ac a b) (kY bl) (mV pl dc ac a b bl k s (.own 2) (.int v) (.own 3) le) v (wM k s ks us v sl l) K:=by
  rcases sC with⟨rfl,rfl⟩|⟨rfl,rfl,rfl,c,rfl⟩<;>kernel_rfl
 nf e<|Rf.casesOn (motive:=λ aa=>wtE (PV W X hX (d+1) true cB) (jx pl dc ac a b) (kY bl) (mV pl dc ac a b bl k s (.own 2) (.int v) (.own 3) le) v (wM k s ks us v sl l) K) (H.use (M:=wM k s ks us v sl l) (i:=3) rfl (λ aa=>rfl) λ f=>rX f bl)
  λ aa xu qg r0 r1 aa aa aa aa w1 w2=>w1.known<|w2.known ⟨⟨rfl,cJ.i (cY (aF (aT (bJ _)) (aF hl (by decide))))<|
   zR (l:=mV pl dc ac a b bl k s (.own 2) (.int v) .undef le) (m:=[.bG ks us, .il sl, .lst (md (l++[(z,v)]))]) rfl (GR rfl (.inr ⟨v,rfl⟩) hle)
    (bV (sC.res _ _) (bV rfl (bV (ah (ob · λ l=>af (AO.lst l)) ((ah (iZ _) (List.map_append (l₁:=l) (l₂:=[(z,v)])).symm).trans (Hz 3 _ 10 (l++[(z,v)])))) rfl))) hK⟩,λ e=>bt e (by decide)⟩
theorem HK{k s:Int}{f:Int->Int}{ks:ae (ae Int)}{us:ae AV}(sC:Pre k s ks us){sl:ae Int}{le:AV}(hle:pO le):∀(vals:ae Int) (l:ae (Int×Int)) (i:Nat) (o6:AV) (K:Fl->St->Prop),pO o6->l.length+vals.length<=1000->
  (∀v∈vals,gX (PV W X hX (d+1) true cB) (kY bl) (jx pl dc ac a b) (ks++[[k,s]]) (us++[.int v]) (f v))->
  (∀o6,pO o6->K .d7 ⟨mV pl dc ac a b bl k s (.own 2) o6 .undef le,[.bG ks us, .il sl, .lst (md (l++vals.map λ v=>(f v,v)))]⟩)->
  jo (jw (PV W X hX (d+1) true cB)).set (jv (PV W X hX (d+1) true cB)).run (vals.length+1) (.fz i (bU vals)) ⟨mV pl dc ac a b bl k s (.own 2) o6 .undef le,[.bG ks us, .il sl, .lst (md l)]⟩ K
 |[],l,i,o6,K,h6,_,_,hK=>sy (bQ l▸hK o6 h6)
 |v::r,l,i,o6,K,h6,hn,H,hK=>mh (ID (Zq sC (aF (bq ..) hn) hle (H v aW) _ (jq (HK sC hle r (l++[(f v,v)]) (i+1) (.int v) K (.inr ⟨v,rfl⟩)
   (bh▸aF (aT (cT _ 1 _)) hn) (λ x hx=>H x (aQ _ hx)) λ o6 h6=>(gO ..).symm▸hK o6 h6))))
noncomputable def outs(out:Int×Int->ae AV):ae (Int×Int)->ae AV
 |[]=>[]
 |p::r=>out p++outs out r
theorem OH{set:AV->St->(St->Prop)->Prop}{b:Jo}{n q i:Nat}{vs:ae AV}{v:AV}{σ:St}{K:St->Prop}(hm:bK σ.mem q=af (.lst vs))(e:nJ vs i=af v)(h:set v σ λ aI=>b aI λ aU=>k7 set b n (.own q (i+1)) aU K):k7 set b (n+1) (.own q i) σ K:=by
 refine dF hm ?_
 dsimp only
 rw[e]
 exact h
theorem Kp{set:AV->St->(St->Prop)->Prop}{b:Jo}{n q i:Nat}{vs:ae AV}{σ:St}{K:St->Prop}(hm:bK σ.mem q=af (.lst vs))(e:nJ vs i=none)(h:K σ):k7 set b (n+1) (.own q i) σ K:=by
 refine dF hm ?_
 dsimp only
 rw[e]
 exact h
theorem zF{set:AV->St->(St->Prop)->Prop}{bd:Jo}{q:Nat}{L:ae (Int×Int)}{out:Int×Int->ae AV}{S:AV->AV->ae AV->St}{K:St->Prop}(ho:∀p,(out p).length<=1)(hm:∀x y acc,bK (S x y acc).mem q=af (.lst (md L)))
  (ht:∀p x y acc C,acc.length<=1000->C (S (.int p.1) (.int p.2) (acc++out p))->set (.tup [.int p.1, .int p.2]) (S x y acc) λ σ=>bd σ C):∀(r pre:ae (Int×Int)) (i:Nat) (x y:AV) (acc:ae AV),L=pre++r->i=pre.length->acc.length+r.length<=1000->
  (∀x y,K (S x y (acc++outs out r)))->k7 set bd (r.length+1) (.own q i) (S x y acc) K
 |[],pre,i,x,y,acc,hL,hi,_,hK=>Kp (hm x y acc) ((Hy L i).trans (ah _ (eZ (aT ((ah fU (hL.trans (bQ pre))).trans hi.symm))))) (bQ acc▸hK x y)
 |p::r,pre,i,x,y,acc,hL,hi,hn,hK=>OH (v:= .tup [.int p.1, .int p.2]) (hm x y acc) ((Hy L i).trans (ah _ (hL▸hi▸J4 pre p r)))
   (ht p x y acc _ (aF (bq ..) hn) (zF ho hm ht r (pre++[p]) (i+1) _ _ (acc++out p) (hL.trans (List.append_cons pre p r)) (hi▸(bh (as:=pre) (bs:=[p])).symm) (bh▸aF (fC (hF (ho p) _) _) (aF (aT (cT _ 1 _)) hn)) λ x y=>(gO ..).symm▸hK x y))
noncomputable def szK(l:ae (Int×Int)):ae AV:=outs (λ p=>[.int p.1]) l
noncomputable def Au(le:Int)(l:ae (Int×Int)):ae AV:=outs (λ p=>aY (p.1==le) [.int p.2] []) l
def WG(P:cC):CL P (pN.ct cM):=ZM (Nb [(1,"size",p0),(2,"value",p0)] 0 p0) (eW 1 p0)
def WF(P:cC):CL P (pM.ct cM):=Ta (Nb [(1,"size",p0),(2,"value",p0)] 0 p0) (eW 2 p0) (QO (eW 1 p0) .Eq (eW 3 p0) p0)
theorem Td{P:cC}{L:ae (Int×Int)}{D:AO}{il:ae Int}{K:St->Prop}(hn:L.length<=1000)(hK:∀x y,K ⟨[.undef,x,y],[D, .il il, .lst (md L), .lst (szK L)]⟩):k7 (WG P).mK.set ((WG P).body 3) (L.length+1) (.own 2 0) ⟨[.undef, .undef, .undef],[D, .il il, .lst (md L), .lst []]⟩ K:=
 zF (q:=2) (S:=λ x y acc=>⟨[.undef,x,y],[D, .il il, .lst (md L), .lst acc]⟩) (λ aa=>cE _) (λ aa aa aa=>rfl) (λ p x y acc C hl h=>nf (B:=cJ (bB acc.length 1000000) (C ⟨[.undef, .int p.1, .int p.2],[D, .il il, .lst (md L), .lst (acc++[.int p.1])]⟩)) (by kernel_rfl) (cJ.i (cY (aF hl (by decide))) h)) L [] 0 _ _ [] rfl rfl (aF (aT (fm _)) hn) hK
theorem Tc{P:cC}{L:ae (Int×Int)}{D:AO}{il:ae Int}{o3:AO}{le:Int}{K:St->Prop}(hn:L.length<=1000)(hK:∀x y,K ⟨[.undef,x,y, .int le],[D, .il il, .lst (md L),o3, .lst (Au le L)]⟩):k7 (WF P).mK.set ((WF P).body 4) (L.length+1) (.own 2 0) ⟨[.undef, .undef, .undef, .int le],[D, .il il, .lst (md L),o3, .lst []]⟩ K:=
 zF (q:=2) (S:=λ x y acc=>⟨[.undef,x,y, .int le],[D, .il il, .lst (md L),o3, .lst acc]⟩) (λ p=>by cases p.1==le; exact ot 1; exact cE 1) (λ aa aa aa=>rfl) (λ p x y acc C hl h=>nf (B:=aY (p.1==le) (cJ (bB acc.length 1000000) (C ⟨[.undef, .int p.1, .int p.2, .int le],[D, .il il, .lst (md L),o3, .lst (acc++[.int p.2])]⟩)) (C ⟨[.undef, .int p.1, .int p.2, .int le],[D, .il il, .lst (md L),o3, .lst acc]⟩)) (by kernel_rfl) (by
  cases e:p.1==le
  ·rw[e] at h; exact bQ acc▸h
  ·rw[e] at h; exact cJ.i (cY (aF hl (by decide))) h)) L [] 0 _ _ [] rfl rfl (aF (aT (fm _)) hn) hK
noncomputable def pF(f:Int->Int)(v:Int):Int×Int:=(f v,v)
theorem Hw{le:Int}{p:Int×Int}{r:ae (Int×Int)}(h:p.1=le):Au le (p::r)= .int p.2::Au le r:=ah (aY · [AV.int p.2] []++Au le r) (be.mpr h)
theorem vq{le:Int}{p:Int×Int}{r:ae (Int×Int)}(h:p.1≠le):Au le (p::r)=Au le r:=ah (aY · [AV.int p.2] []++Au le r) (d9.mpr h)
theorem BG(f:Int->Int)(b:Int):∀r:ae Int,(∀v∈r,f b<=f v)->t9 f b r=b
 |[],_=>rfl
 |v::r,h=>(ah (λ c=>t9 f (aY c v b) r) (dh (gV.mpr (h v aW)))).trans (BG f b r λ x hx=>h x (aQ _ hx))
theorem rS(f:Int->Int)(m:Int):∀(r:ae Int) (b:Int),(∀v∈b::r,m<=f v)->(∃v∈b::r,f v=m)->∃t,Au m ((b::r).map (pF f))= .int (t9 f b r)::t
 |[],b,h1,h2=>h2.elim λ v z=>⟨[],Hw (p:=pF f b) (r:=[]) (aZ.mp z.1▸z.2)⟩
 |v::r,b,h1,h2=>by
  obtain⟨x,hx,e⟩:=h2
  have hb:=h1 b aW
  have hr:∀y∈r,m<=f y:=λ y hy=>h1 y (aQ _ (aQ _ hy))
  show ∃t,Au m (pF f b::pF f v::r.map (pF f))= .int (t9 f (aY (decide (f v < f b)) v b) r)::t
  by_cases q:f v < f b
  ·have nb:f b≠m:=jh (f9 (h1 v (aQ _ aW)) q)
   rw[cy q,vq (p:=pF f b) nb]
   exact rS f m r v (λ y hy=>h1 y (aQ _ hy)) ⟨x,(bW.mp hx).resolve_left λ z=>nb (z▸e),e⟩
  ·rw[dh q]
   by_cases eb:f b=m
   ·exact⟨_,(Hw (p:=pF f b) eb).trans (ah (λ z=>AV.int z::_) (BG f b r λ y hy=>eb▸hr y hy).symm)⟩
   ·have nv:f v≠m:=jh (j8 (HO.mpr ⟨hb,Ne.symm eb⟩) (gV.mp q))
    rw[vq (p:=pF f b) eb,vq (p:=pF f v) nv,← vq (p:=pF f b) eb]
    exact rS f m r b (λ y hy=>(bW.mp hy).elim (λ z=>z▸hb) (hr y)) ⟨x,bW.mpr (.inr ((bW.mp ((bW.mp hx).resolve_left λ z=>eb (z▸e))).resolve_left λ z=>nv (z▸e))),e⟩
theorem IM(L:ae (Int×Int)):intsOf (szK L)=af (L.map (·.1)):=by
 induction L with
 |nil=>rfl
 |cons p r ih=>show(match intsOf (szK r) with|some l=>af (p.1::l)|none=>none)=_; rw[ih]; rfl
theorem E7{M:ae AO}{i:Nat}{L:ae (Int×Int)}{K:ae Int->Prop}(h:bK M i=af (.lst (szK L)))(k:K (L.map (·.1))):lN (.own i) M K:=dF h ((ah (sL · K) (IM L)).mpr k)
def w3(P:cC):SX P cM:=MJ 8 p0 (Sz p0 (iR (Nw pN (eW 5 p0) (WG P) p0) qU) p0) p0
def w4(P:cC):SX P cM:=Sk (eW 2 p0) (VC (iR (eW 3 p0) (iR (eW 4 p0) qU)) 0 p0) p0 (Fz (Nw pM (eW 5 p0) (WF P) p0) (x_ 0 p0) p0) p0
def KF(K:Fl->St->Prop):Fl->St->Prop:=KU 2 (Gr.getD 3 []) K
def Vq(P:cC):SS P cM:=iH (w3 P) (iH (w4 P) lC)
def wtF(P:cC)(v:AV)(σ:St)(K:Fl->St->Prop):Prop:=TJ (jw P).lp (jw P).set (jv P).run v σ (pD (Vq P) (KF K))
def wt4(P:cC)(loc:ae AV)(m:ae AO)(K:Fl->St->Prop):Prop:=(iH (w4 P) lC).run ⟨loc,m⟩ (KF K)
def wtS(k s:Int)(loc:ae AV)(m:ae AO)(K:Fl->St->Prop):Prop:=Ir (.own 4) (.int 0) m λ v=>I3 (.own 0) (.tup [.int k, .int s]) v ⟨loc,m⟩ λ σ=>KF K .d7 σ
theorem Pre.put{k s x:Int}{ks:ae (ae Int)}{us:ae AV}(h:Pre k s ks us){t l1 l2:ae AV}{sl:ae Int}{loc:ae AV}{K:Fl->St->Prop}:wtS k s loc [.bG ks us, .il sl, .lst l1, .lst l2, .lst (.int x::t)] K=need (cL 0 (t.length+1)) (KF K .d7 ⟨loc,[.bG (ks++[[k,s]]) (us++[.int x]), .il sl, .lst l1, .lst l2, .lst (.int x::t)]⟩):=by
 rcases h with⟨rfl,rfl⟩|⟨rfl,rfl,rfl,c,rfl⟩<;>kernel_rfl
theorem Sy{k s b0:Int}{tl:ae Int}{f:Int->Int}{ks:ae (ae Int)}{us:ae AV}(sC:Pre k s ks us){sl:ae Int}{le o6:AV}(hle:pO le)(h6:pO o6)(hn:tl.length<=100)
  (H:∀v∈b0::tl,gX (PV W X hX (d+1) true cB) (kY bl) (jx pl dc ac a b) (ks++[[k,s]]) (us++[.int v]) (f v)) (K:Fl->St->Prop)
  (hK:∀o6 x,pO o6->K .d7 ⟨mV pl dc ac a b bl k s .undef o6 .undef (.int x),[.bG (ks++[[k,s]]) (us++[.int (t9 f b0 tl)]), .il sl]⟩):
  wtF (PV W X hX (d+1) true cB) (.row (b0::tl)) ⟨mV pl dc ac a b bl k s (.own 2) o6 .undef le,[.bG ks us, .il sl, .lst []]⟩ K:=
 have hl:((b0::tl).map (pF f)).length<=1000:=aF (aT (bJ _)) (aF (eE hn) (by decide))
 have n3 (o6:AV) (L:ae (Int×Int)):pD (Vq (PV W X hX (d+1) true cB)) (KF K) .d7 ⟨mV pl dc ac a b bl k s (.own 2) o6 .undef le,[.bG ks us, .il sl, .lst (md L)]⟩=
   ∃N,k7 (WG (PV W X hX (d+1) true cB)).mK.set ((WG (PV W X hX (d+1) true cB)).body 3) N (.own 2 0) ⟨[.undef, .undef, .undef],[.bG ks us, .il sl, .lst (md L), .lst []]⟩ λ σ=>
    lN (.own 3) σ.mem λ ns=>aY ns.isEmpty False (wt4 (PV W X hX (d+1) true cB) (mV pl dc ac a b bl k s (.own 2) o6 .undef (.int (CD ns))) σ.mem K):=by kernel_rfl
 have n4 (o6:AV) (x:Int) (L:ae (Int×Int)) (l2:ae AV):wt4 (PV W X hX (d+1) true cB) (mV pl dc ac a b bl k s (.own 2) o6 .undef (.int x)) [.bG ks us, .il sl, .lst (md L), .lst l2] K=
   ∃N,k7 (WF (PV W X hX (d+1) true cB)).mK.set ((WF (PV W X hX (d+1) true cB)).body 4) N (.own 2 0) ⟨[.undef, .undef, .undef, .int x],[.bG ks us, .il sl, .lst (md L), .lst l2, .lst []]⟩ λ σ=>
    wtS k s (mV pl dc ac a b bl k s (.own 2) o6 .undef (.int x)) σ.mem K:=by kernel_rfl
 have em:((b0::tl).map (pF f)).map (·.1)=(b0::tl).map f:=tW
 have mn:=tK ((b0::tl).map f) (λ h=>nomatch h)
 (rS f (CD ((b0::tl).map f)) tl b0 (λ v hv=>mn.2 _ (g7 hv)) (dM.mp mn.1)).elim λ t ht=>
 ⟨_,HK sC hle (b0::tl) [] 0 o6 (pD (Vq (PV W X hX (d+1) true cB)) (KF K)) h6 (aF (aT (fm _)) (aF (eE hn) (by decide))) H λ o6 h6=>
  nf (n3 o6 _) ⟨_,Td hl λ x y=>E7 (L:=(b0::tl).map (pF f)) rfl (em▸nf (n4 o6 _ _ _) ⟨_,Tc hl λ x y=>ht.symm▸nf sC.put (Mine.nd ⟨by decide,Int.ofNat_succ_pos _,by decide⟩
   (zR rfl (GR rfl h6 (.inr ⟨_,rfl⟩)) (bV (sC.YD _ _) (bV rfl rfl)) (hK _ _ h6)))⟩)⟩⟩
theorem Q6(hd:2<=d){k s:Int}{f:Int->Int}{ks:ae (ae Int)}{us:ae AV}(sC:Pre k s ks us){sl:ae Int}{le o6:AV}(hle:pO le)(h6:pO o6)(hk:k=1)
  (H:∀v∈Oe,gX (PV W X hX (d+1) true cB) (kY bl) (jx pl dc ac a b) (ks++[[k,s]]) (us++[.int v]) (f v)) (K:Fl->St->Prop)
  (hK:∀o6 x,pO o6->K .d7 ⟨mV pl dc ac a b bl k s .undef o6 .undef (.int x),[.bG (ks++[[k,s]]) (us++[.int (t9 f 1 [2,3])]), .il sl]⟩):
  (lL (PV W X hX (d+1) true cB)).run ⟨mV pl dc ac a b bl k s .undef o6 .undef le,[.bG ks us, .il sl]⟩ K:=
 nf (B:=WC (PV W X hX (d+1) true cB) 35 [.int 2] [.bG ks us, .il sl, .lst []] λ v m=>wtF (PV W X hX (d+1) true cB) v ⟨mV pl dc ac a b bl k s (.own 2) o6 .undef le,m⟩ K) (by subst hk; kernel_rfl) ((c35 hd _).known (Sy sC hle h6 (by decide) H K hK))
theorem AI(hd:2<=d){k s:Int}{f:Int->Int}{ks:ae (ae Int)}{us:ae AV}(sC:Pre k s ks us){sl:ae Int}{le o6:AV}(hle:pO le)(h6:pO o6)(hk:k=0)
  (H:∀v∈rQ,gX (PV W X hX (d+1) true cB) (kY bl) (jx pl dc ac a b) (ks++[[k,s]]) (us++[.int v]) (f v)) (K:Fl->St->Prop)
  (hK:∀o6 x,pO o6->K .d7 ⟨mV pl dc ac a b bl k s .undef o6 .undef (.int x),[.bG (ks++[[k,s]]) (us++[.int (t9 f 16 rQ.tail)]), .il sl]⟩):
  (lL (PV W X hX (d+1) true cB)).run ⟨mV pl dc ac a b bl k s .undef o6 .undef le,[.bG ks us, .il sl]⟩ K:=
 nf (B:=WC (PV W X hX (d+1) true cB) 28 [.int 5] [.bG ks us, .il sl, .lst []] λ v m=>wtF (PV W X hX (d+1) true cB) v ⟨mV pl dc ac a b bl k s (.own 2) o6 .undef le,m⟩ K) (by subst hk; kernel_rfl) ((c28 hd _).known (Sy sC hle h6 (by decide) H K hK))
end
theorem u7{set:AV->St->(St->Prop)->Prop}{b:Body}{n p k:Nat}{v:AV}{ns:ae Int}{σ:St}{K:Fl->St->Prop}(hm:bK σ.mem p=af (.il ns))(e:nJ (bU ns) k=af v)(h:set v σ λ aI=>b aI λ f aU=>r7 f aU (λ dz=>jo set b n (.own p (k+1)) dz K) K):jo set b (n+1) (.own p k) σ K:=by
 refine dF hm ?_
 dsimp only
 rw[e]
 exact h
theorem wk{set:AV->St->(St->Prop)->Prop}{b:Body}{n p k:Nat}{ns:ae Int}{σ:St}{K:Fl->St->Prop}(hm:bK σ.mem p=af (.il ns))(e:nJ (bU ns) k=none)(h:K .d7 σ):jo set b (n+1) (.own p k) σ K:=by
 refine dF hm ?_
 dsimp only
 rw[e]
 exact h
theorem qv{P:cC}{v:AV}{σ:St}{K:St->Prop}(h:K (σ.set 4 v)):(pi P).set v σ K:=h
section
variable{prog:aK}{w:bw}{W:WK prog w}{X:BM->Prop}{hX:∀G G',dC G G'->X G->X G'}{d:Nat}{cB:xI}{bl:ae (ae (Int×ae Int))}{pl dc ac:ae Int}{a b:Int}
def wtO(P:cC)(pl dc ac:ae Int)(a b:Int)(bl:ae (ae (Int×ae Int)))(k:Int)(ns:ae Int)(K:AV->ae AO->Prop):Prop:=∃N,jo (pi P).set (lL P).run N (.own 1 0) ⟨[jx pl dc ac a b,kY bl, .own 0, .int k, .undef, .undef, .undef, .undef, .undef],[.bG [] [], .il ns]⟩ (pD (iH (Ff (eW 2 p0) p0) lC:SS P cM) (iE K))
theorem Dv(L:LK W){ns:ae Int}(hz:zo dc=true)(hs:lB dc=ns){ks:ae (ae Int)}{us:ae AV}(hI:iZ (lO 0 (.bG ks us::[.il ns]) 11) us=af us)(h:wtO (PV W X hX (d+1) true cB) pl dc ac 0 b bl 0 ns λ v m=>v= .own 0/\m= .bG ks us::[.il ns]):
  WC (PV W X hX (d+2) true cB) 897 [jx pl dc ac 0 b,kY bl] [] λ v m=>v= .bG ks us/\m=[]:=
 Al (rest:=[.il (lB dc)]) (hs▸hI) (xh L rfl (nf (B:=cJ (zo dc) (wtO (PV W X hX (d+1) true cB) pl dc ac 0 b bl 0 (lB dc) λ v m=>v= .own 0/\m= .bG ks us::[.il (lB dc)])) (by kernel_rfl) (cJ.i hz (hs▸h))))
theorem Np(L:LK W){ns:ae Int}(hz:zo ac=true)(hs:lB ac=ns){ks:ae (ae Int)}{us:ae AV}(hI:iZ (lO 0 (.bG ks us::[.il ns]) 11) us=af us)(h:wtO (PV W X hX (d+1) true cB) pl dc ac 1 b bl 1 ns λ v m=>v= .own 0/\m= .bG ks us::[.il ns]):
  WC (PV W X hX (d+2) true cB) 897 [jx pl dc ac 1 b,kY bl] [] λ v m=>v= .bG ks us/\m=[]:=
 Al (rest:=[.il (lB ac)]) (hs▸hI) (xh L rfl (nf (B:=cJ (zo ac) (wtO (PV W X hX (d+1) true cB) pl dc ac 1 b bl 1 (lB ac) λ v m=>v= .own 0/\m= .bG ks us::[.il (lB ac)])) (by kernel_rfl) (cJ.i hz (hs▸h))))
theorem Nq(L:LK W)(hd:2<=d){s:Int}{f:Int->Int}(hz:zo ac=true)(hs:lB ac=[s])
  (H:∀v∈Oe,gX (PV W X hX (d+1) true cB) (kY bl) (jx pl dc ac 1 b) [[1,s]] [.int v] (f v)):
  WC (PV W X hX (d+2) true cB) 897 [jx pl dc ac 1 b,kY bl] [] λ v m=>v= .bG [[1,s]] [.int (t9 f 1 [2,3])]/\m=[]:=
 Np L hz hs rfl ⟨2,u7 (v:= .int s) rfl rfl (qv (Q6 hd (ks:=[]) (us:=[]) (.inl ⟨rfl,rfl⟩) (.inl rfl) (.inl rfl) rfl H _ λ o6 x h6=>jq (wk rfl rfl ⟨rfl,rfl⟩)))⟩
theorem Nr(L:LK W)(hd:2<=d){s:Int}{f:Int->Int}(hz:zo dc=true)(hs:lB dc=[s])
  (H:∀v∈rQ,gX (PV W X hX (d+1) true cB) (kY bl) (jx pl dc ac 0 b) [[0,s]] [.int v] (f v)):
  WC (PV W X hX (d+2) true cB) 897 [jx pl dc ac 0 b,kY bl] [] λ v m=>v= .bG [[0,s]] [.int (t9 f 16 rQ.tail)]/\m=[]:=
 Dv L hz hs rfl ⟨2,u7 (v:= .int s) rfl rfl (qv (AI hd (ks:=[]) (us:=[]) (.inl ⟨rfl,rfl⟩) (.inl rfl) (.inl rfl) rfl H _ λ o6 x h6=>jq (wk rfl rfl ⟨rfl,rfl⟩)))⟩
theorem Nt(L:LK W)(hd:2<=d){f:Int->Int}{g:Int->Int->Int}{x:Int}(hx:x=t9 f 16 rQ.tail)(hm:x∈rQ)(hz:zo dc=true)(hs:lB dc=[0,1])
  (H:∀v∈rQ,gX (PV W X hX (d+1) true cB) (kY bl) (jx pl dc ac 0 b) [[0,0]] [.int v] (f v))
  (H2:∀u∈rQ,∀v∈rQ,gX (PV W X hX (d+1) true cB) (kY bl) (jx pl dc ac 0 b) [[0,0],[0,1]] [.int u, .int v] (g u v)):
  WC (PV W X hX (d+2) true cB) 897 [jx pl dc ac 0 b,kY bl] [] λ v m=>v= .bG [[0,0],[0,1]] [.int x, .int (t9 (g x) 16 rQ.tail)]/\m=[]:=
 Dv L hz hs rfl ⟨3,u7 (v:= .int 0) rfl rfl (qv (AI hd (ks:=[]) (us:=[]) (.inl ⟨rfl,rfl⟩) (.inl rfl) (.inl rfl) rfl H _ λ o6 y h6=>jq (hx▸u7 (v:= .int 1) rfl rfl
  (qv (AI hd (ks:=[[0,0]]) (us:=[.int x]) (.inr ⟨rfl,rfl,rfl,x,rfl⟩) (.inr ⟨y,rfl⟩) h6 rfl (H2 x hm) _ λ o6 z h6=>jq (wk rfl rfl ⟨rfl,rfl⟩))))))⟩
end
structure vN{prog:aK}{w:bw}(W:WK prog w)(bl:ae (ae (Int×ae Int)))(c:t8)(ks:ae (ae Int))(cs:ae Int):Prop where
 r:FX W bl c ks cs
 k:Bp ks cs
 t:∀{X:BM->Prop} {hX:∀G G',dC G G'->X G->X G'} {d:Nat} {cB:xI},LK W->18<=d->WC (PV W X hX (d+2) true cB) 897 [c.v,kY bl] [] λ v m=>v= .bG ks (bU cs)/\m=[]
section
variable{prog:aK}{w:bw}{W:WK prog w}{bl:ae (ae (Int×ae Int))}{pl dc ac:ae Int}{b s:Int}
theorem QZ{IV sc:AV}{ks:ae (ae Int)}{us:ae Int}{X:BM->Prop}{hX:∀G G',dC G G'->X G->X G'}{d:Nat}{cB:xI}(h:H3 W IV sc ks us)(hd:18<=d):gX (PV W X hX (d+1) true cB) IV sc ks (bU us) (Vd W IV sc ks us):=(Av W h).up (FW (uE hd))
theorem Xc(h:JL W bl (pl,dc,ac,1,b) 1 s Oe)(hz:zo ac=true)(hs:lB ac=[s]):∃ks cs,vN W bl (pl,dc,ac,1,b) ks cs:=
 ⟨_,_, .one h rfl, .one _ _ _,λ L hd=>Nq L (aF (by decide) hd) hz hs λ v hm=>QZ (h.z v hm) hd⟩
theorem O9(h:JL W bl (pl,dc,ac,0,b) 0 s rQ)(hz:zo dc=true)(hs:lB dc=[s]):∃ks cs,vN W bl (pl,dc,ac,0,b) ks cs:=
 ⟨_,_, .one h (v0:=16) (r:=rQ.tail) rfl, .one _ _ _,λ L hd=>Nr L (aF (by decide) hd) hz hs λ v hm=>QZ (h.z v hm) hd⟩
theorem aaY(h:Re W bl (pl,dc,ac,0,b))(hz:zo dc=true)(hs:lB dc=[0,1]):∃ks cs,vN W bl (pl,dc,ac,0,b) ks cs:=
 ⟨_,_, .two h rfl, .two _ _,λ L hd=>Nt L (aF (by decide) hd) (g:=λ x v=>Vd W (kY bl) (jx pl dc ac 0 b) [[0,0],[0,1]] [x,v]) rfl (zC _ _ _) hz hs (λ v hm=>QZ (h.z v hm) hd) λ u hu v hm=>QZ (h.y u hu v hm) hd⟩
def ZH(bl:ae (ae (Int×ae Int)))(two:aC):Prop:=bl.map (·.map (·.1))∈Z_ two
def V8(bl:ae (ae (Int×ae Int))):Prop:=∀b∈bl,∀p∈b,vM p.2
theorem VL(hr:V8 bl){p:Int}(hs:ZH bl false):(∃ks cs,vN W bl ([p],[0],[0],1,3) ks cs)/\∃ks cs,vN W bl ([p],[0],[1],1,3) ks cs:=
 ⟨Xc (s:=0) ⟨.inr ⟨rfl,rfl⟩,sa (ac:=[]) (.head _) rfl,λ v hv=>uz (ac:=[]) (.head _) rfl (.head _) hs hr (.cons (oM (Rs v hv)) rfl)⟩ rfl rfl,Xc (s:=1) ⟨.inr ⟨rfl,rfl⟩,sa (ac:=[]) (.tail _ (.head _)) rfl,λ v hv=>uz (ac:=[]) (.tail _ (.head _)) rfl (.head _) hs hr (.cons (oM (Rs v hv)) rfl)⟩ rfl rfl⟩
theorem RI(hr:V8 bl){p:Int}{ac:ae Int}(hs:ZH bl false):(∃ks cs,vN W bl ([p],[0],ac,0,0) ks cs)/\∃ks cs,vN W bl ([p],[1],ac,0,0) ks cs:=
 ⟨O9 (s:=0) ⟨.inl ⟨rfl,rfl⟩,sa (ac:=ac) (.tail _ (.tail _ (.head _))) rfl,λ v hv=>uz (ac:=ac) (.tail _ (.tail _ (.head _))) rfl (.head _) hs hr (.cons (oM (wb v hv)) rfl)⟩ rfl rfl,O9 (s:=1) ⟨.inl ⟨rfl,rfl⟩,sa (ac:=ac) (.tail _ (.tail _ (.tail _ (.head _)))) rfl,λ v hv=>uz (ac:=ac) (.tail _ (.tail _ (.tail _ (.head _)))) rfl (.head _) hs hr (.cons (oM (wb v hv)) rfl)⟩ rfl rfl⟩
theorem g_C(hr:V8 bl){ac:ae Int}(hs:ZH bl true):(∃ks cs,vN W bl ([0,1],[0,0],ac,0,0) ks cs)/\∃ks cs,vN W bl ([0,1],[1,1],ac,0,0) ks cs:=
 ⟨O9 (s:=0) ⟨.inl ⟨rfl,rfl⟩,sa (ac:=ac) (.tail _ (.tail _ (.tail _ (.tail _ (.head _))))) rfl,λ v hv=>uz (ac:=ac) (.tail _ (.tail _ (.tail _ (.tail _ (.head _))))) rfl (.head _) hs hr (.cons (oM (wb v hv)) rfl)⟩ rfl rfl,O9 (s:=1) ⟨.inl ⟨rfl,rfl⟩,sa (ac:=ac) (.tail _ (.tail _ (.tail _ (.tail _ (.tail _ (.head _)))))) rfl,λ v hv=>uz (ac:=ac) (.tail _ (.tail _ (.tail _ (.tail _ (.tail _ (.head _)))))) rfl (.head _) hs hr (.cons (oM (wb v hv)) rfl)⟩ rfl rfl⟩
theorem g_D{e:Kd}(hr:V8 bl)(hs:ZH bl true)(he:e∈EM pl ac)(hc:e.sc=t8.v (pl,dc,ac,0,0))(h2:e.two=true)(hk:e.ks=[[0,0],[0,1]])(hl:e.lo=0)(hh:e.hi=85)(hz:zo dc=true)(hd:lB dc=[0,1]):∃ks cs,vN W bl (pl,dc,ac,0,0) ks cs:=by
 obtain⟨sc,two,ks,lo,hi⟩:=e
 obtain rfl:sc=_:=hc
 obtain rfl:two=true:=h2
 obtain rfl:ks=_:=hk
 obtain rfl:lo=0:=hl
 obtain rfl:hi=85:=hh
 exact aaY ⟨sa he rfl,λ v hv=>uz he rfl (.head _) hs hr (.cons (oM (wb v hv)) rfl),λ u hu v hv=>uz he rfl (.tail _ (.head _)) hs hr (.cons (oM (wb u hu)) (.cons (oM (wb v hv)) rfl))⟩ hz hd
theorem UY{two:aC}{s:ae Int}(hr:V8 bl):∀x∈jy two s,bl.map (·.map (·.1))∈oh x.1.1->∃ks cs,vN W bl x.1 ks cs:=by
 cases two
 ·exact all2 (λ h=>(VL hr h).1) (all2 (λ h=>(VL hr h).2) (all2 (λ h=>(RI hr h).1) (all2 (λ h=>(RI hr h).2) (all2 (λ h=>(RI hr h).1) (all2 (λ h=>(RI hr h).2) (sk))))))
 ·exact all2 (λ h=>(VL hr h).1) (all2 (λ h=>(VL hr h).2) (all2 (λ h=>(VL hr h).1) (all2 (λ h=>(VL hr h).2) (all2 (λ h=>(RI hr h).1) (all2 (λ h=>(RI hr h).2) (all2 (λ h=>(RI hr h).1) (all2 (λ h=>(RI hr h).2) (all2 (λ h=>(g_C hr h).1) (all2 (λ h=>g_D hr h (.tail _ (.tail _ (.tail _ (.tail _ (.tail _ (.tail _ (.head _))))))) rfl rfl rfl rfl rfl rfl rfl) (all2 (λ h=>g_D hr h (.tail _ (.tail _ (.tail _ (.tail _ (.tail _ (.tail _ (.tail _ (.head _)))))))) rfl rfl rfl rfl rfl rfl rfl) (all2 (λ h=>(g_C hr h).2) (sk))))))))))))
end
noncomputable def C0(B k:Nat)(d:Int):Prop:=0<=d/\d.natAbs < 2 ^ (k * B)
theorem yW{B k:Nat}{d s:Int}(h:C0 B k d)(h0:0<=s)(hs:s.natAbs < 2 ^ B):C0 B (k+1) (d * s+s):=by
 obtain⟨h1,h2⟩:=h
 obtain⟨d,rfl⟩:=po h1
 obtain⟨s,rfl⟩:=po h0
 have e:(d:Int) * (s:Int)+(s:Int)=((d * s+s:Nat):Int):=by simp
 rw[e]
 refine⟨j9 _,?_⟩
 simp only[Int.natAbs_natCast] at h2 hs ⊢
 rw[show d * s+s=(d+1) * s by rw[Nat.add_mul,HS],show(k+1) * B=k * B+B by rw[Nat.add_mul,HS],Nat.pow_add]
 exact aS (HQ s h2) (Nat.mul_lt_mul_of_pos_left hs (Nat.pow_pos (by decide)))
theorem Hb{B k:Nat}{d:Int}(h:C0 B k d):C0 B (k+1) d:=
 ⟨h.1,ff h.2 (ry (by decide) (HQ B (xm k)))⟩
theorem Sc{B k:Nat}{d s:Int}(hB:B<=1048576)(hk:k<=63)(h:C0 B k d)(hs:s.natAbs < 2 ^ B):jD d s:=by
 refine Jh (tf.mpr h.2) (tf.mpr hs) ?_
 have:k * B<=63 * 1048576:=Nat.mul_le_mul hk hB
 generalize k * B=x at this
 omega
section
variable{prog:aK}{w:bw}{W:WK prog w}{X:BM->Prop}{hX:∀G G',dC G G'->X G->X G'}{j:aC}{cB:xI}{d:Nat}
noncomputable def mxP(m s:Int):Int:=(m * 48271+s.fmod 2147483629+7919).fmod 2147483647
theorem IQ{B k:Nat}(hB:B<=1048576)(hk:k<=62){ns:ae Int}{dg m v:Int}{o:AV}(hd:C0 B k dg)(hv:v.natAbs < 2 ^ B):
  ∃VI s,C0 B (k+1) VI/\∀K:Fl->St->Prop,K .d7 ⟨[.row ns, .int VI, .int (mxP m s), .int v, .int s],[]⟩->(q_ (PV W X hX (d+1) j cB)).run ⟨[.row ns, .int dg, .int m, .int v,o],[]⟩ K:=by
 cases e:decide (v>=0) with
 |true=>
  have h0:0<=v:=a4 e
  cases e2:decide (v>=(10:Int) ^ gN 18) with
  |true=>
   refine⟨dg * v+v,v,yW hd h0 hv,λ K hK=>?_⟩
   conv=>whnf
   rw[e]
   conv=>whnf
   refine⟨⟨by decide,by decide⟩,?_⟩
   conv=>whnf
   rw[e2]
   conv=>whnf
   refine⟨Sc hB (by omega) hd hv,?_⟩
   conv=>whnf
   refine⟨jZ (by decide),?_⟩
   conv=>whnf
   refine⟨by decide,?_⟩
   conv=>whnf
   refine⟨by decide,?_⟩
   exact hK
  |false=>
   refine⟨dg,v,Hb hd,λ K hK=>?_⟩
   conv=>whnf
   rw[e]
   conv=>whnf
   refine⟨⟨by decide,by decide⟩,?_⟩
   conv=>whnf
   rw[e2]
   conv=>whnf
   refine⟨jZ (by decide),?_⟩
   conv=>whnf
   refine⟨by decide,?_⟩
   conv=>whnf
   refine⟨by decide,?_⟩
   exact hK
 |false=>
  have h0:¬(v>=0):=oC e
  have hs0:0<=-1 - v:=by omega
  have hs:(-1 - v).natAbs < 2 ^ B:=aS (by omega) hv
  cases e2:decide ((-1 - v)>=(10:Int) ^ gN 18) with
  |true=>
   refine⟨dg * (-1 - v)+(-1 - v),(-1 - v),yW hd hs0 hs,λ K hK=>?_⟩
   conv=>whnf
   rw[e]
   conv=>whnf
   refine⟨⟨by decide,by decide⟩,?_⟩
   conv=>whnf
   rw[e2]
   conv=>whnf
   refine⟨Sc hB (by omega) hd hs,?_⟩
   conv=>whnf
   refine⟨jZ (by decide),?_⟩
   conv=>whnf
   refine⟨by decide,?_⟩
   conv=>whnf
   refine⟨by decide,?_⟩
   exact hK
  |false=>
   refine⟨dg,(-1 - v),Hb hd,λ K hK=>?_⟩
   conv=>whnf
   rw[e]
   conv=>whnf
   refine⟨⟨by decide,by decide⟩,?_⟩
   conv=>whnf
   rw[e2]
   conv=>whnf
   refine⟨jZ (by decide),?_⟩
   conv=>whnf
   refine⟨by decide,?_⟩
   conv=>whnf
   refine⟨by decide,?_⟩
   exact hK
theorem CA{P:cC}{v:AV}{σ:St}{K:St->Prop}(h:K (σ.set 3 v)):(rb P).set v σ K:=h
theorem yZ{B:Nat}(hB:B<=1048576){ns:ae Int}:∀(l:ae Int) (k i:Nat) (dg m:Int) (n o:AV),k+l.length<=63->C0 B k dg->(∀v∈l,v.natAbs < 2 ^ B)->
  ∃VI m' n' o',∀K:Fl->St->Prop,K .d7 ⟨[.row ns, .int VI, .int m',n',o'],[]⟩->jo (rb (PV W X hX (d+1) j cB)).set (q_ (PV W X hX (d+1) j cB)).run (l.length+1) (.fz i (bU l)) ⟨[.row ns, .int dg, .int m,n,o],[]⟩ K
 |[],k,i,dg,m,n,o,_,_,_=>⟨dg,m,n,o,λ K h=>h⟩
 |v::r,k,i,dg,m,n,o,hk,hd,hl=>by
  have hk:k+(r.length+1)<=63:=hk
  obtain⟨dg1,s1,hd1,h1⟩:=IQ (W:=W) (X:=X) (hX:=hX) (j:=j) (cB:=cB) (d:=d) hB (by omega) (ns:=ns) (m:=m) (o:=o) hd (hl v aW)
  obtain⟨VI,m',n',o',h2⟩:=yZ hB r (k+1) (i+1) dg1 (mxP m s1) (.int v) (.int s1) (by omega) hd1 (λ x hx=>hl x (aQ _ hx))
  exact⟨VI,m',n',o',λ K hK=>mh (CA (h1 _ (jq (h2 K hK))))⟩
theorem UF{B:Nat}(hB:B<=1048576){ns:ae Int}(hn:ns.length<=63)(hl:∀v∈ns,v.natAbs < 2 ^ B):
  ∃x y,WC (PV W X hX (d+2) j cB) 858 [.row ns] [] λ v m=>v= .own 0/\m=[.lst [.int x, .int y]]:=by
 obtain⟨x,y,n,o,h⟩:=yZ (W:=W) (X:=X) (hX:=hX) (j:=j) (cB:=cB) (d:=d) hB (ns:=ns) ns 0 0 0 97 .undef .undef (by omega) ⟨dR _,by rw[Nat.zero_mul]; decide⟩ hl
 obtain⟨v,m,⟨rfl,rfl⟩,z⟩:=qq (W:=W) (X:=X) (hX:=hX) (j:=j) (cB:=cB) (d:=d) (i:=51) (e:=fe 858 hJ ["script"] vW) (vs:=[.row ns]) (m:=[]) (I:=λ v m=>v= .own 0/\m=[.lst [.int x, .int y]]) rfl rfl rfl
  ⟨(.own 0,[.lst [.int x, .int y]]),⟨rfl,rfl⟩,λ K hK=>by
   conv=>whnf
   refine⟨ns.length+1,h _ ?_⟩
   exact hK⟩
 exact⟨x,y,z⟩
theorem uk{G:BM}{ρ:ae au}:∀{l:ae Int} {vs:ae am},bI G ρ (bU l) vs->cw l vs
 |[],vs=>id
 |n::r,vs=>λ h=>bI.uc (Q:=λ vs=>cw (n::r) vs) h λ v us hv h=>hv.iu (Q:=λ v=>cw (n::r) (v::us)) λ t=>(uk h).cons
theorem WC.il{P:cC}{f:au}{vs:ae AV}{l:ae Int}(h:WC P f vs [] λ v m=>v= .own 0/\m=[.lst (bU l)]):WC P f vs [] λ v m=>v= .own 0/\m=[.il l]:=by
 refine⟨λ A G ρ s us r p m v=>X.eh (h.run A G ρ s us r p m v) (n8 λ v s' z=>?_)⟩
 obtain⟨G',ρ',av,mem',⟨a,b,c,d,rfl,rfl⟩,q1,q2,q3,q4⟩:=z
 refine⟨G',ρ', .own 0,[.il l],⟨a,b,⟨c.kg,c.len,λ i x ao hx Xj=>?_,c.nd,c.fr⟩,d,rfl,rfl⟩,q1,q2,q3,q4⟩
 match i,Xj with
 |0,Xj=>
  cases Xj
  obtain⟨o,h1,us,h2,h3⟩:=c.obj 0 x (.lst (bU l)) hx rfl
  exact⟨o,h1,us,h2,uk h3⟩
theorem Qb{B:Nat}(hB:B<=1048576){ns:ae Int}(hn:ns.length<=63)(hl:∀v∈ns,v.natAbs < 2 ^ B):
  ∃r:ae Int,r.length=2/\WC (PV W X hX (d+2) j cB) 858 [.row ns] [] λ v m=>v= .own 0/\m=[.il r]:=by
 obtain⟨x,y,h⟩:=UF (W:=W) (X:=X) (hX:=hX) (j:=j) (cB:=cB) (d:=d) hB hn hl
 exact⟨[x,y],rfl,WC.il h⟩
end
theorem yY:∀l:ae (Int×ae Int),oX (l.map qR)=true
 |[]=>rfl
 |_::r=>yY r
theorem C2:∀l:ae (ae (Int×ae Int)),oX (l.map λ b=> .lst (b.map qR))=true
 |[]=>rfl
 |b::r=>cz.mpr ⟨yY b,C2 r⟩
theorem Gl:∀l:ae (Int×ae Int),zH (l.map qR)<=2
 |[]=>by decide
 |_::r=>Nat.max_le.mpr ⟨cE 2,Gl r⟩
theorem Kz:∀l:ae (ae (Int×ae Int)),zH (l.map λ b=> .lst (b.map qR))<=3
 |[]=>by decide
 |b::r=>Nat.max_le.mpr ⟨eE (Gl b),Kz r⟩
theorem BR:∀l:ae Int,zH (bU l)=0
 |[]=>rfl
 |_::r=>(Nat.zero_max _).trans (BR r)
theorem wL:∀l:ae Int,oX (bU l)=true
 |[]=>rfl
 |_::r=>wL r
theorem wP(f:Nat->Nat):∀l:ae (ae Int),ei f (l.map AV.row)=l.map AV.row
 |[]=>rfl
 |x::r=>ah (AV.row x::·) (wP f r)
theorem Cp:∀l:ae Int,s9 (bU l)
 |[]=>trivial
 |x::r=>⟨⟨x,rfl⟩,Cp r⟩
theorem BK{a:AV}{xs:ae AV}{m:ae AO}{K:aC->Prop}(ha:∀C,m7 a m C=C xs)(p:oX xs=true)(d:zH xs<=3)(h:K false):q6 .NK a a m K:=
 (ha _).mpr ((ha _).mpr (.inl ⟨rfl,p,aS d (by decide),h⟩))
structure NU(P:cC)(fr gv rv:AV)(iv:Int)(o:AX)(bl:ae (ae (Int×ae Int))):Prop where
 ks:Bp o.ks o.cs
 a:WC P 892 [fr,o.v,rv, .int iv] [] λ v m=>v=kY bl/\m=[]
 b:WC P 675 [fr,gv,o.v, .int iv] [] λ v m=>v=kY bl/\m=[]
 c:WC P 897 [o.v,kY bl] [] λ v m=>v= .bG o.ks (bU o.cs)/\m=[]
noncomputable def Up(ns:ae Int)(fr g rv:AV)(iv:Int)(a8 a9 a10 a11:AV):ae AV:=[.row ns, .own 1,fr,g,rv, .own 2, .int iv, .own 3,a8,a9,a10,a11]
noncomputable def Db(rk:ae (ae Int))(ru:ae AV):AV:= .bG rk ru
section
variable{prog:aK}{w:bw}{W:WK prog w}{X:BM->Prop}{hX:∀G G',dC G G'->X G->X G'}{n:Nat}{ns r:ae Int}{fa wd iv:Int}{two:aC}{ps ru:ae AV}{rk:ae (ae Int)}{xs:ae AX}
def XZ(ns r:ae Int)(fr g rv:AV)(iv:Int)(xs:ae AX)(a:AV×AV×AV×AV)(f:FS):St:=⟨Up ns fr g rv iv a.1 a.2.1 a.2.2.1 a.2.2.2,[.tab, .il r, .lst (xs.map (·.v)), .bG f.1 (bU f.2)]⟩
theorem PH(EE:∀f,ei f ps=ps)(hrv:∀f,ei f ru=ru){o:AX}{a:AV×AV×AV×AV}{f:FS}{m:Nat}{K:Fl->St->Prop}(h:∃bl,NU (PV W X hX n true bP) (ju fa two wd) (gI ps) (Db rk ru) iv o bl)(hf:Jp f m)(hm:m+2<=1000)
  (hK:∀a,K .d7 (XZ ns r (ju fa two wd) (gI ps) (Db rk ru) iv xs a (mg f o.ks o.cs))):(Cz (PV W X hX n true bP)).set o.v (XZ ns r (ju fa two wd) (gI ps) (Db rk ru) iv xs a f) λ σ=>(Cr (PV W X hX n true bP)).run σ K:=
 h.elim λ bl h=>
 have rr (f:Nat->Nat):ei f [Db rk ru, .int iv]=[Db rk ru, .int iv]:=ah (λ l=>[AV.bG rk l, .int iv]) (hrv f)
 have ro (f:Nat->Nat):ei f [o.v, .int iv]=[o.v, .int iv]:=rfl
 nf (B:=WC (PV W X hX n true bP) 892 [ju fa two wd,o.v,Db rk ru, .int iv] [.tab, .il r, .lst (xs.map (·.v)), .bG f.1 (bU f.2)] λ v m=>(abQ (PV W X hX n true bP)).run ⟨Up ns (ju fa two wd) (gI ps) (Db rk ru) iv o.v v a.2.2.1 a.2.2.2,m⟩ K) (by kernel_rfl)
 ((WC.anyM h.a (λ f=>My (rU f) rfl (rr f)) (λ f=>rX f bl) _).known
 (nf (B:=WC (PV W X hX n true bP) 675 [ju fa two wd,gI ps,o.v, .int iv] [.tab, .il r, .lst (xs.map (·.v)), .bG f.1 (bU f.2)] λ v m=>q6 .NK v (kY bl) m λ b=>aY b (K (.ret (.bool false)) ⟨Up ns (ju fa two wd) (gI ps) (Db rk ru) iv o.v (kY bl) a.2.2.1 a.2.2.2,m⟩) ((abR (PV W X hX n true bP)).run ⟨Up ns (ju fa two wd) (gI ps) (Db rk ru) iv o.v (kY bl) a.2.2.1 a.2.2.2,m⟩ K)) (by kernel_rfl)
 ((WC.anyM h.b (λ f=>My (rU f) (zS (EE f)) rfl) (λ f=>rX f bl) _).known (BK (λ aa=>rfl) (C2 bl) (Kz bl)
 (nf (B:=WC (PV W X hX n true bP) 897 [o.v,kY bl] [.tab, .il r, .lst (xs.map (·.v)), .bG f.1 (bU f.2)] λ v m=>(abS (PV W X hX n true bP)).run ⟨Up ns (ju fa two wd) (gI ps) (Db rk ru) iv o.v (kY bl) v a.2.2.2,m⟩ K) (by kernel_rfl)
 ((WC.anyM h.c (λ f=>My rfl (rX f bl) rfl) (λ f=>ah (AV.bG o.ks) (sR f _)) _).known
 (nf (B:=∃N,jo (L3 (PV W X hX n true bP)).set (LM (PV W X hX n true bP)).run N (.keys 0 o.ks) (XZ ns r (ju fa two wd) (gI ps) (Db rk ru) iv xs (o.v,kY bl, .bG o.ks (bU o.cs),a.2.2.2) f) (pD (lC (P:=PV W X hX n true bP) (ct:=dK)) K)) (by kernel_rfl)
 ⟨3,GE (S:=λ x u v=>⟨Up ns (ju fa two wd) (gI ps) (Db rk ru) iv o.v (kY bl) (.bG o.ks (bU o.cs)) x,[.tab, .il r, .lst (xs.map (·.v)), .bG u v]⟩) h.ks (λ x a b f K h=>nf (by kernel_rfl) h) hf hm λ x=>hK (_,_,_,x)⟩)))))))
end
section
variable{prog:aK}{w:bw}{W:WK prog w}{X:BM->Prop}{hX:∀G G',dC G G'->X G->X G'}{n:Nat}
def VH(P:cC):CL P (FM.ct dK):=Ta (xb 1 p0) (eW 1 p0) (Sp (Dy (eW 2 p0) 41 p0 (iR (Fz (eW 1 p0) (x_ 0 p0) p0) (iR (Fz (eW 1 p0) (x_ 1 p0) p0) (iR (Fz (eW 1 p0) (x_ 2 p0) p0) qU))) p0) .NK (Fz (eW 3 p0) (eW 1 p0) p0) p0)
inductive Bq(P:cC)(gv:AV)(rk:ae (ae Int))(ru:ae AV):ae Int->Prop
 |mk (a b c:Int) (r:ae Int) (h:wB rk ru [a,b,c]=af (.row r)) (w:WC P 802 [gv, .int a, .int b, .int c] [] λ v m=>v= .row r/\m=[]):Bq P gv rk ru [a,b,c]
noncomputable def zq(P:cC)(gv:AV)(rk:ae (ae Int))(ru:ae AV):Prop:=∀k∈rk,Bq P gv rk ru k
theorem Ek{set:AV->St->(St->Prop)->Prop}{b:Jo}{n k:Nat}{v:ae Int}{r:ae (ae Int)}{σ:St}{K:St->Prop}(h:set (.tup (bU v)) σ λ aI=>b aI λ aU=>k7 set b n (.keys (k+1) r) aU K):k7 set b (n+1) (.keys k (v::r)) σ K:=h
theorem Ie{set:AV->St->(St->Prop)->Prop}{b:Jo}{n k:Nat}{σ:St}{K:St->Prop}(h:K σ):k7 set b (n+1) (.keys k []) σ K:=h
theorem OE{ps ru:ae AV}{rk:ae (ae Int)}(EE:∀f,ei f ps=ps){x0 x1:AV}{m0 m1 m2 m3 m4:AO}{k:ae Int}{C:St->Prop}(h:Bq (PV W X hX n true bP) (gI ps) rk ru k)(hC:C ⟨[x0, .tup (bU k),gI ps, .bG rk ru],[m0,m1,m2,m3,m4, .lst []]⟩):
  (VH (PV W X hX n true bP)).mK.set (.tup (bU k)) ⟨[x0,x1,gI ps, .bG rk ru],[m0,m1,m2,m3,m4, .lst []]⟩ λ σ=>(VH (PV W X hX n true bP)).body 5 σ C:=by
 cases h with
 |mk a b c r hl hw=>
  exact nf (B:=WC (PV W X hX n true bP) 802 [gI ps, .int a, .int b, .int c] [m0,m1,m2,m3,m4, .lst []] λ v m=>II (wB rk ru [a,b,c]) λ u=>q6 .NK v u m λ bb=>aY bb (sw (P:=PV W X hX n true bP) (ct:=FM.ct dK) (eW 1 p0) 5 ⟨[x0, .tup (bU [a,b,c]),gI ps, .bG rk ru],m⟩ C) (C ⟨[x0, .tup (bU [a,b,c]),gI ps, .bG rk ru],m⟩)) (by kernel_rfl)
   ((WC.anyM hw (λ f=>My (zS (EE f)) rfl rfl) (λ f=>rfl) _).known (r8 hl<|BK (a:= .row r) (xs:=bU r) (λ aa=>rfl) (wL r) (aF (aT (BR r)) (ot 3)) hC))
theorem Gd{ps ru:ae AV}{rk:ae (ae Int)}(EE:∀f,ei f ps=ps){x0:AV}{m0 m1 m2 m3 m4:AO}{K:St->Prop}(hK:∀x1,K ⟨[x0,x1,gI ps, .bG rk ru],[m0,m1,m2,m3,m4, .lst []]⟩):∀(rest:ae (ae Int)) (i:Nat) (x1:AV),(∀k∈rest,Bq (PV W X hX n true bP) (gI ps) rk ru k)->
  k7 (VH (PV W X hX n true bP)).mK.set ((VH (PV W X hX n true bP)).body 5) (rest.length+1) (.keys i rest) ⟨[x0,x1,gI ps, .bG rk ru],[m0,m1,m2,m3,m4, .lst []]⟩ K
 |[],i,x1,_=>Ie (hK x1)
 |k::rest,i,x1,H=>Ek (OE EE (H k aW) (Gd EE hK rest (i+1) _ λ k hk=>H k (aQ _ hk)))
end
def nT(v:AV)(m:ae AO):Prop:=v= .bool true/\bK m 0=af .tab
theorem Fb(f:Nat->Nat):∀l:ae AX,ei f (l.map (·.v))=l.map (·.v)
 |[]=>rfl
 |o::r=>ah (o.v::·) (Fb f r)
section
variable{prog:aK}{w:bw}{W:WK prog w}{X:BM->Prop}{hX:∀G G',dC G G'->X G->X G'}{n:Nat}{ns r:ae Int}{fa wd iv:Int}{two:aC}{ps ru:ae AV}{rk:ae (ae Int)}{l:ae AX}
theorem pa.fit{P:cC}{f:au}{dr qQ:ae AV}{mem:ae AO}{K:AV->ae AO->Prop}(h:pa P f dr mem K)(e:dr=qQ):pa P f qQ mem K:=e▸h
theorem WI{α β γ:Type}(f:α->β->γ){a a':α}{b b':β}(h:a=a')(k:b=b'):f a b=f a' b':=congr (ah f h) k
theorem Pf(EE:∀f,ei f ps=ps)(hl:l.length < 100)(H:∀o∈l,ZD (PV W X hX (n+1) true bP) (ju fa two wd) (gI ps) iv o)(D:AO):
  pa (PV W X hX (n+2) true bP) 689 [ju fa two wd,gI ps, .own 2, .int iv] [.tab, .il r, .lst (l.map (·.v)),D] λ v m=>v= .own 4/\m=[.tab, .il r, .lst (l.map (·.v)),D, .bG (GX ([],[]) l).1 (bU (GX ([],[]) l).2)]:=
 have g:=pa.BS (TW (W:=W) (X:=X) (hX:=hX) (n:=n) EE l hl H) [0,2] [.tab, .il r, .lst (l.map (·.v)),D] rfl (by decide) rfl (λ i j ao hi hj=>match i,hi,hj with
  |0,hi,hj=>ak hi▸ak hj▸rfl
  |1,hi,hj=>ak hi▸ak hj▸ah (λ l=>af (AO.lst l)) (Fb _ l).symm)
 pa.fit (pa.mono g λ v m z=>z.elim λ v0 z=>z.elim λ m0 z=>⟨z.2.1.trans (ah (el _) z.1.1),z.2.2.1.trans ((ah (upd _ _ · _) z.1.2).trans
  (WI (λ x y=>[AO.tab, .il r, .lst x,D, .bG (GX ([],[]) l).1 y]) (Fb (eQ [0,2] 4) l) (sR (eQ [0,2] 4) _)))⟩) (by
  show[el _ (ju fa two wd),el _ (gI ps), .own 2, .int iv]=_
  rw[rU,zS (EE _)])
theorem LI(EE:∀f,ei f ps=ps)(hrv:∀f,ei f ru=ru)(l:ae AX)(hl:l.length < 100)
  (H:∀o∈l,∃bl,NU (PV W X hX (n+2) true bP) (ju fa two wd) (gI ps) (Db rk ru) iv o bl)
  (H2:∀o∈l,ZD (PV W X hX (n+1) true bP) (ju fa two wd) (gI ps) iv o)
  (HR:zq (PV W X hX (n+2) true bP) (gI ps) rk ru):
  (XR (PV W X hX (n+2) true bP)).run (XZ ns r (ju fa two wd) (gI ps) (Db rk ru) iv l (.undef, .undef, .undef, .undef) ([],[])) (iE nT):=
 nf (B:=∃N,jo (Cz (PV W X hX (n+2) true bP)).set (Cr (PV W X hX (n+2) true bP)).run N (.own 2 0) (XZ ns r (ju fa two wd) (gI ps) (Db rk ru) iv l (.undef, .undef, .undef, .undef) ([],[])) (pD (XS (PV W X hX (n+2) true bP)) (iE nT))) (by kernel_rfl)
 ⟨_,wT (p:=2) (A:=λ o=>∃bl,NU (PV W X hX (n+2) true bP) (ju fa two wd) (gI ps) (Db rk ru) iv o bl) (λ aa aa=>rfl) (λ o h=>h.elim λ aa h=>h.ks) (λ o a f m K h hf hm hK=>PH EE hrv h hf hm hK) l [] 0 _ ([],[]) 0 rfl rfl ⟨rfl,cE _⟩ (aF (fC (aF (aT (fm _)) (jB 2 (eU hl))) 2) (by decide)) H λ a=>
  nf (B:=pa (PV W X hX (n+2) true bP) 689 [ju fa two wd,gI ps, .own 2, .int iv] [.tab, .il r, .lst (l.map (·.v)), .bG (GX ([],[]) l).1 (bU (GX ([],[]) l).2)] λ v m=>WH v (.own 3) m λ b=>aY b (nT (.bool false) m) ((XT (PV W X hX (n+2) true bP)).run ⟨Up ns (ju fa two wd) (gI ps) (Db rk ru) iv a.1 a.2.1 a.2.2.1 a.2.2.2,m⟩ (iE nT))) (by kernel_rfl)
   ((Pf EE hl H2 _).known ⟨rfl,rfl,Cp _,nf (B:=∃N,k7 (VH (PV W X hX (n+2) true bP)).mK.set ((VH (PV W X hX (n+2) true bP)).body 5) N (.keys 0 rk) ⟨[.undef, .undef,gI ps, .bG rk ru],[.tab, .il r, .lst (l.map (·.v)), .bG (GX ([],[]) l).1 (bU (GX ([],[]) l).2), .bG (GX ([],[]) l).1 (bU (GX ([],[]) l).2), .lst []]⟩ λ σ=>q6 .si (.own 5) (.own σ.mem.length) (σ.mem++[AO.lst []]) λ b=>nT (.bool b) (σ.mem++[AO.lst []])) (by kernel_rfl)
    ⟨_,Gd EE (λ aa=>Or.inl ⟨rfl,rfl,by decide,rfl,rfl⟩) rk 0 .undef HR⟩⟩)⟩
end
theorem WC.src{P:cC}{f:au}{vs vs':ae AV}{v0:AV}{r r':ae Int}{M M':ae AO}{K:AV->ae AO->Prop}(p:Nat)(h:WC P f vs [.il r] λ v m=>v=v0/\m=[.il r'])(hv:vs'=ei (eQ [p] M.length) vs)(hs:sT [p] M.length=true)(hp:iZ (bK M) [p]=af [.il r])
  (hc:∀f,el f v0=v0) (hM:bz M p (.il r')=M') (k:K v0 M'):WC P f vs' M K:=
 WC.Fx [p] h hv hs rfl hp ((hc _).symm▸(hM▸bQ _:upd (eQ [p] M.length) [p] [.il r'] M=M').symm▸k)
section
variable{prog:aK}{w:bw}{W:WK prog w}{X:BM->Prop}{hX:∀G G',dC G G'->X G->X G'}
structure V_(W:WK prog w)(X:BM->Prop)(hX:∀G G',dC G G'->X G->X G')(fr gv rv:AV)(iv:Int)(o:AX):Prop where
 lw:∃bl,NU (PV W X hX 26 true bP) fr gv rv iv o bl
 gc:ZD (PV W X hX 25 true bP) fr gv iv o
theorem Qw(U:UK W)(L:LK W){c:Int×aC×Int}(hc:c∈iY){cs:ae (aC×ae Int)}(hl:cs.length=(bg c).1+(bg c).2)(h:∀c∈cs,ny c){s:ae Int}{x:t8×ae Int}(hx:x∈jy c.2.1 s){iv:Int}(hi:iv=0\/iv=1\/iv=2):
  ∃o:AX,o.v=x.1.v/\V_ W X hX (ju c.1 c.2.1 c.2.2) (sA c.2.1 (bg c).1 cs) (og c.2.1 (bg c).1 (bg c).2 (cs.map (·.2))) iv o:=
 (T9 (W:=W) (X:=X) (hX:=hX) U hc hl h (Qx _ _ x hx) hi).elim λ bl I=>(UY (W:=W) (λ b hb p hp=>(dM.mp (I.rok b hb p hp)).elim λ y hy=>hy.2▸(h y hy.1).1) x hx I.shp).elim λ ks z=>z.elim λ vs R=>
  ⟨⟨x.1,ks,vs⟩,rfl,⟨bl,R.k,(I.law _ _ _ _).up (PGU (by decide)),(I.own _ _ _ _).up (PGU (by decide)),R.t (d:=24) L (by decide)⟩,
   R.k,I0 (hX:=hX) (zV h) I (Bo vs) λ lf=>Ko (hX:=hX) R.r lf⟩
theorem ia{n:Nat}{R:ae (ae (ae (ae Int)))}{g:AV}{rk:ae (ae Int)}{ru:ae AV}(hg:mY R g){a b d:Int}(ha:zZ a=true)(hb:zZ b=true)(hd:zZ d=true){Lr:ae (ae (ae Int))}{C:ae (ae Int)}{r:ae Int}(e1:KW R a.toNat=af Lr)(e2:KW Lr d.toNat=af C)(e3:KW C b.toNat=af r)(e4:wB rk ru [a,b,d]=af (.row r)):Bq (PV W X hX (n+2) true bP) g rk ru [a,b,d]:=
 (RK (W:=W) (X:=X) (hX:=hX) (j:=true) (cB:=bP) (d:=n) hg ha hb hd e1 e2 e3).elim λ v z=>z.elim λ m z=>⟨a,b,d,r,e4,z.1.1▸z.1.2▸z.2⟩
theorem Qr{n:Nat}:∀c∈iY,∀(ρ:Nat->ae Int) (gv:AV),mY (n9 c.2.1 (bg c).1 ((eu ((bg c).1+(bg c).2)).map ρ)) gv->zq (PV W X hX (n+2) true bP) gv (C9 c.2.1 (bg c).1 (bg c).2) (((eu ((bg c).1+(bg c).2)).map ρ).map AV.row):=
 all2 (λ ρ gv g=>all2 (ia g rfl rfl rfl rfl rfl rfl rfl) (sk)) (all2 (λ ρ gv g=>all2 (ia g rfl rfl rfl rfl rfl rfl rfl) (all2 (ia g rfl rfl rfl rfl rfl rfl rfl) (sk))) (all2 (λ ρ gv g=>all2 (ia g rfl rfl rfl rfl rfl rfl rfl) (all2 (ia g rfl rfl rfl rfl rfl rfl rfl) (sk))) (all2 (λ ρ gv g=>all2 (ia g rfl rfl rfl rfl rfl rfl rfl) (all2 (ia g rfl rfl rfl rfl rfl rfl rfl) (all2 (ia g rfl rfl rfl rfl rfl rfl rfl) (all2 (ia g rfl rfl rfl rfl rfl rfl rfl) (sk))))) (all2 (λ ρ gv g=>all2 (ia g rfl rfl rfl rfl rfl rfl rfl) (all2 (ia g rfl rfl rfl rfl rfl rfl rfl) (sk))) (all2 (λ ρ gv g=>all2 (ia g rfl rfl rfl rfl rfl rfl rfl) (all2 (ia g rfl rfl rfl rfl rfl rfl rfl) (sk))) (all2 (λ ρ gv g=>all2 (ia g rfl rfl rfl rfl rfl rfl rfl) (all2 (ia g rfl rfl rfl rfl rfl rfl rfl) (all2 (ia g rfl rfl rfl rfl rfl rfl rfl) (sk)))) (all2 (λ ρ gv g=>all2 (ia g rfl rfl rfl rfl rfl rfl rfl) (all2 (ia g rfl rfl rfl rfl rfl rfl rfl) (all2 (ia g rfl rfl rfl rfl rfl rfl rfl) (sk)))) (sk))))))))
theorem MH{c:Int×aC×Int}(hc:c∈iY){cs:ae (aC×ae Int)}(hl:cs.length=(bg c).1+(bg c).2)(h:∀c∈cs,ny c){n:Nat}:
  zq (PV W X hX (n+2) true bP) (sA c.2.1 (bg c).1 cs) (C9 c.2.1 (bg c).1 (bg c).2) ((cs.map (·.2)).map AV.row):=
 have e:(eu ((bg c).1+(bg c).2)).map (λ i=>(cs.map o9).getD i [])=cs.map o9:=(ah (λ n=>(eu n).map λ i=>(cs.map o9).getD i []) (hl.symm.trans (bJ _).symm)).trans (Cv [] (cs.map o9))
 (ah (λ r=>mY (n9 c.2.1 (bg c).1 r) (sA c.2.1 (bg c).1 cs)->zq (PV W X hX (n+2) true bP) (sA c.2.1 (bg c).1 cs) (C9 c.2.1 (bg c).1 (bg c).2) (r.map AV.row)) e).mp (Qr c hc _ _) (zV h)
end
theorem C1{α β γ:Type}{v:α->γ}{u:β->γ}{A:β->Prop}:∀xs:ae α,(∀x∈xs,∃o,u o=v x/\A o)->∃l:ae β,l.map u=xs.map v/\∀o∈l,A o
 |[],_=>⟨[],rfl,λ aa h=>nomatch h⟩
 |x::r,h=>(h x (.head _)).elim λ o z=>(C1 r λ y hy=>h y (.tail _ hy)).elim λ l y=>⟨o::l,congr (ah _ z.1) y.1,λ p hp=>(bW.mp hp).elim (λ e=>e▸z.2) (y.2 p)⟩
theorem UA{i:Int}(h:0<=i/\i<=2 - 1):i=0\/i=1:=by omega
theorem Vo{i:Int}(h:0<=i/\i<=3 - 1):i=0\/i=1\/i=2:=by omega
noncomputable def IC(ns:ae Int)(fr g rv a5 a6 a7:AV):ae AV:=[.row ns, .own 1,fr,g,rv,a5,a6,a7, .undef, .undef, .undef, .undef]
section
variable{prog:aK}{w:bw}{W:WK prog w}{X:BM->Prop}{hX:∀G G',dC G G'->X G->X G'}{ns:ae Int}{c:Int×aC×Int}{cs:ae (aC×ae Int)}{ps:ae AV}
theorem Ui(U:UK W)(L:LK W){r:ae Int}(hr:r.length=2)(hc:c∈iY)(hl:cs.length=(bg c).1+(bg c).2)(h:∀c∈cs,ny c)(eg:sA c.2.1 (bg c).1 cs=gI ps)(Pi:∀f,ei f ps=ps)
  (xs:ae t8) (hx:∀x∈xs,∃s t,(x,t)∈jy c.2.1 s) (hn:xs.length < 100):
  (R0 (PV W X hX 26 true bP)).run ⟨IC ns (ju c.1 c.2.1 c.2.2) (gI ps) (og c.2.1 (bg c).1 (bg c).2 (cs.map (·.2))) (.own 2) .undef .undef,[.tab, .il r, .lst (xs.map (·.v))]⟩ (iE nT):=by
 obtain⟨x,y,rfl⟩:=mM hr
 obtain⟨v,m,⟨rfl,rfl⟩,wt⟩:=Fq (W:=W) (X:=X) (hX:=hX) (j:=true) (cB:=bP) (d:=24) (x:=x) (y:=y) (top:=3) (by decide) (by decide)
 obtain⟨l,e1,e2⟩:=C1 (v:=t8.v) (u:=AX.v) xs λ x VN=>(hx x VN).elim λ s z=>z.elim λ t hxs=>(Qw (W:=W) (X:=X) (hX:=hX) U L hc hl h hxs (Vo (m9 [_,y] (by decide))))
 have HR:=MH (W:=W) (X:=X) (hX:=hX) hc hl h (n:=24)
 rw[eg] at HR e2
 exact nf (B:=WC (PV W X hX 26 true bP) 865 [.own 1, .int 3] [.tab, .il [x,y], .lst (xs.map (·.v))] λ v m=>(XR (PV W X hX 26 true bP)).run ⟨IC ns (ju c.1 c.2.1 c.2.2) (gI ps) (og c.2.1 (bg c).1 (bg c).2 (cs.map (·.2))) (.own 2) v (.own m.length),m++[.bG [] []]⟩ (iE nT)) (by kernel_rfl)
  (WC.src 1 wt rfl rfl rfl (λ aa=>rfl) rfl (e1▸LI (n:=24) Pi (wP · _) l (aS (aT ((bJ _).symm.trans ((ah fU e1).trans (bJ _)))) hn) (λ o ho=>(e2 o ho).lw) (λ o ho=>(e2 o ho).gc) HR))
def aau(C:St->Prop)(loc:ae AV)(v:AV)(m:ae AO):Prop:=pB m 2 λ o=>match o with
 | .lst xs=>cJ (bB xs.length 1000000) (C ⟨loc,bz m 2 (.lst (xs++[v]))⟩)
 |_=>False
def RB(P:cC):CL P (NN.ct dK):=ZM (xb 1 p0) (Dx (Vz "_law_scan" (.fn 882) p0) (iR (eW 3 p0) (iR (eW 2 p0) qU)) p0)
theorem LH(w1:∀r:ae Int,r.length=2->∃x∈jy c.2.1 r,WC (PV W X hX 26 true bP) 882 [.own 0,ju c.1 c.2.1 c.2.2] [.il r] λ v m=>v=x.1.v/\m=[.il x.2]){K:St->Prop}:∀(n:Nat) (i:Int) (r:ae Int) (acc:ae t8) (y:AV),r.length=2->acc.length+n<=1000->(∀x∈acc,∃s t,(x,t)∈jy c.2.1 s)->
  (∀(y:AV) (r':ae Int) (xs:ae t8),r'.length=2->xs.length=acc.length+n->(∀x∈xs,∃s t,(x,t)∈jy c.2.1 s)->K ⟨[.undef,y,ju c.1 c.2.1 c.2.2, .own 1],[.tab, .il r', .lst (xs.map t8.v)]⟩)->
  k7 (RB (PV W X hX 26 true bP)).mK.set ((RB (PV W X hX 26 true bP)).body 2) (n+1) (.j6 n i 1) ⟨[.undef,y,ju c.1 c.2.1 c.2.2, .own 1],[.tab, .il r, .lst (acc.map t8.v)]⟩ K
 |0,_,r,acc,y,hr,_,ha,hK=>hK y r acc hr rfl ha
 |n+1,i,r,acc,y,hr,hn,ha,hK=>(w1 r hr).elim λ x z=>
  nf (B:=WC (PV W X hX 26 true bP) 882 [.own 1,ju c.1 c.2.1 c.2.2] [.tab, .il r, .lst (acc.map t8.v)] (aau (k7 (RB (PV W X hX 26 true bP)).mK.set ((RB (PV W X hX 26 true bP)).body 2) (n+1) (.j6 n (i+1) 1) · K) [.undef, .int i,ju c.1 c.2.1 c.2.2, .own 1])) (by kernel_rfl)
   (WC.src 1 z.2 (ah (λ v=>[AV.own 1,v]) (rU _).symm) rfl rfl (λ aa=>rfl) rfl (cJ.i (cY (aF (aT (bJ _)) (aF (bq ..) (aF hn (by decide)))))
    ((ah (λ l=>k7 (RB (PV W X hX 26 true bP)).mK.set ((RB (PV W X hX 26 true bP)).body 2) (n+1) (.j6 n (i+1) 1) ⟨[.undef, .int i,ju c.1 c.2.1 c.2.2, .own 1],[.tab, .il x.2, .lst l]⟩ K) (List.map_append (l₁:=acc) (l₂:=[x.1]) (f:=t8.v))).mp
     (LH w1 n (i+1) x.2 (acc++[x.1]) (.int i) (I1 _ r x z.1) (bh▸aF (aT (cT _ 1 _)) hn) (λ y hy=>(fJ.mp hy).elim (ha y) λ h=>aZ.mp h▸⟨r,x.2,z.1⟩)
      λ y r' xs h1 h2=>hK y r' xs h1 (h2.trans (bh▸cT _ 1 _))))))
def abI(P:cC)(n:Nat)(ns:ae Int)(fr g rv:AV)(r:ae Int):Prop:=∃N,k7 (RB P).mK.set ((RB P).body 2) N (.j6 n 0 1) ⟨[.undef, .undef,fr, .own 1],[.tab, .il r, .lst []]⟩ λ σ=>(R0 P).run ⟨IC ns fr g rv (.own 2) .undef .undef,σ.mem⟩ (iE nT)
theorem Uj(U:UK W)(L:LK W){r:ae Int}(hr:r.length=2)(hc:c∈iY)(hl:cs.length=(bg c).1+(bg c).2)(h:∀c∈cs,ny c)(eg:sA c.2.1 (bg c).1 cs=gI ps)(Pi:∀f,ei f ps=ps):
  (RZ (PV W X hX 26 true bP)).run ⟨IC ns (ju c.1 c.2.1 c.2.2) (gI ps) (og c.2.1 (bg c).1 (bg c).2 (cs.map (·.2))) .undef .undef .undef,[.tab, .il r]⟩ (iE nT):=by
 obtain⟨x,y,rfl⟩:=mM hr
 obtain⟨v,m,⟨rfl,rfl⟩,wt⟩:=Fq (W:=W) (X:=X) (hX:=hX) (j:=true) (cB:=bP) (d:=24) (x:=x) (y:=y) (top:=2) (by decide) (by decide)
 have w1 (r:ae Int) (h:r.length=2):∃x∈jy c.2.1 r,WC (PV W X hX 26 true bP) 882 [.own 0,ju c.1 c.2.1 c.2.2] [.il r] λ v m=>v=x.1.v/\m=[.il x.2]:=(UZ (W:=W) (X:=X) (hX:=hX) h).imp λ x=> .imp_right λ z=>z.up (VF (W:=W) (X:=X) (hX:=hX) (j:=true) (cB:=bP) (d:=25) (n:=5) (by decide))
 have sc (n:Nat) (hn:n<=2) (r:ae Int) (hr:r.length=2):abI (PV W X hX 26 true bP) n ns (ju c.1 c.2.1 c.2.2) (gI ps) (og c.2.1 (bg c).1 (bg c).2 (cs.map (·.2))) r:=
  ⟨n+1,LH w1 n 0 r [] .undef hr (aF (aT (fm n)) (aF hn (by decide))) (λ aa h=>nomatch h) λ y r' xs h1 h2 h3=>Ui U L h1 hc hl h eg Pi xs h3 (h2▸aS (aT (fm n)) (aS hn (by decide)))⟩
 have h1:=UA (m9 [x,y] (top:=2) (by decide))
 have h2:(gh [x,y] 2).length=2:=rfl
 generalize Ft [x,y] 2=v at wt h1
 generalize gh [x,y] 2=r at wt h2
 conv=>whnf
 refine WC.src (M':=[.tab, .il r]) 1 wt rfl rfl rfl (λ aa=>rfl) rfl ?_
 rcases h1 with rfl|rfl
 ·exact nf (by kernel_rfl) (sc 1 (by decide) r h2)
 ·exact nf (by kernel_rfl) (sc 2 (by decide) r h2)
def abJ(P:cC)(loc:ae AV)(v:AV)(m:ae AO):Prop:=Ao [(3,"grid",p0),(4,"rows",p0)] v ⟨loc,m⟩ λ σ=>(RZ P).run σ (iE nT)
theorem XU(U:UK W)(L:LK W){B:Nat}(hB:B<=1048576){ns:ae Int}(hn:ns.length<=63)(hl:∀v∈ns,v.natAbs < 2 ^ B):pa (PV W X hX 27 true bP) 902 [.row ns] [.tab] nT:=by
 obtain⟨r0,h0,w1⟩:=Qb (W:=W) (X:=X) (hX:=hX) (j:=true) (cB:=bP) (d:=24) hB hn hl
 obtain⟨c,hc,r1,h1,w2⟩:=O6 (W:=W) (X:=X) (hX:=hX) h0
 obtain⟨cs,r2,hcs,h2,hok,w3⟩:=TB (W:=W) (X:=X) (hX:=hX) hc h1
 have w2:=w2.up (VF (W:=W) (X:=X) (hX:=hX) (j:=true) (cB:=bP) (d:=25) (n:=5) (by decide))
 have w3:=w3.up (VF (W:=W) (X:=X) (hX:=hX) (j:=true) (cB:=bP) (d:=25) (n:=5) (by decide))
 obtain⟨ps,eg,Pi⟩:=zV (two:=c.2.1) (n0:=(bg c).1) hok
 have eF:Gu c.2.1 (bg c).1 (bg c).2 cs= .tup [gI ps,og c.2.1 (bg c).1 (bg c).2 (cs.map (·.2))]:=ah (λ g=>AV.tup [g,og c.2.1 (bg c).1 (bg c).2 (cs.map o9)]) eg
 have cf (f:Nat->Nat):el f (.tup [gI ps,og c.2.1 (bg c).1 (bg c).2 (cs.map (·.2))])= .tup [gI ps,og c.2.1 (bg c).1 (bg c).2 (cs.map (·.2))]:=
  congr (ah (λ l k=>AV.tup [gI l, .bG (C9 c.2.1 (bg c).1 (bg c).2) k]) Pi.eQ) (wP f _)
 exact Pv (d:=25) L rfl (nf (B:=WC (PV W X hX 26 true bP) 858 [.row ns] [.tab] λ v m=>(XO (PV W X hX 26 true bP)).run ⟨[.row ns,v, .undef, .undef, .undef, .undef, .undef, .undef, .undef, .undef, .undef, .undef],m⟩ (iE nT)) (by kernel_rfl)
  (WC.Fx [] w1 rfl rfl rfl rfl (nf (B:=WC (PV W X hX 26 true bP) 872 [.own 1] [.tab, .il r0] λ v m=>(XQ (PV W X hX 26 true bP)).run ⟨IC ns v .undef .undef .undef .undef .undef,m⟩ (iE nT)) (by kernel_rfl)
   (WC.src (M':=[.tab, .il r1]) 1 w2 rfl rfl rfl rU rfl (nf (B:=WC (PV W X hX 26 true bP) 877 [.own 1,ju c.1 c.2.1 c.2.2] [.tab, .il r1] (abJ (PV W X hX 26 true bP) (IC ns (ju c.1 c.2.1 c.2.2) .undef .undef .undef .undef .undef))) (by kernel_rfl)
    (WC.src (M':=[.tab, .il r2]) 1 (eF▸w3) (ah (λ v=>[AV.own 1,v]) (rU _).symm) rfl rfl cf rfl (Uj U L h2 hc hcs hok eg λ f=>Pi.eQ)))))))
end
theorem To{prog:aK}{w:bw}{t:ie Fin}{s:ar}{R:iP->ar->Prop}(abm:s.asleep)
  (h:cK true (aE prog w) tY t (λ fin s'=>∃f,fin= .done f/\R (.ok f) s'/\leftWithCleanup s'.gens=false) s):
  ∃n r s' s'',schedN (denote table) prog w n (.single s ⟨t, .builtin "claim.caller" {},default,[]⟩)= .halted (tZ r) s''/\
   runN (denote table) prog w n s ⟨t, .builtin "claim.caller" {},default,[]⟩= .halted (tZ r) s''/\s''.forget=s'.forget/\R r s':=by
 refine wp_halts_full (M:=aE prog w) (R:=R) (p:=default) abm ?_
 refine ox _ _ t (λ fin p' s' z=>?_) (λ aa aa aa f=>f.elim) _ _ (h _ default caller_in λ aa=>⟨by decide,λ x hx=>nomatch hx⟩)
 obtain⟨f,rfl,hf⟩:=z
 exact hf
noncomputable def KS(g:au->aq Obj)(l:ae au):f_:=l.filterMap λ a=>(g a).map λ o=>(a,o)
def fragOf(h:Heap)(l:ae au):f_:=KS h.get? l
theorem Im{h:Heap}{l:ae au}{a:au}{o:Obj}(e:(fragOf h l).lookup a=af o):h.get? a=af o/\a∈l:=
 (Jd.mp (mem_of_lookupK e)).elim λ b z=>(eH.mp z.2).elim λ o' q=>(gA q.2).1▸(gA q.2).2▸⟨q.1,z.1⟩
def LD(K:f_):aC:=r9 (nsIn K dG "law") λ r=>r9 r λ v=>x7 v (a_ · 902)
theorem LF{K:f_}(h:LD K=true):nsIn K dG "law"=af (af (.ref 902)):=
 h_ h λ r e h=>h_ h λ v e' h=>(ma h).elim λ a q=>e.trans (ah af (e'.trans (ah af (q.1.trans (ah dp (aL q.2))))))
def KE(K:f_):aC:=FA.all (Eu K)&&(Xd K 668&&(Eu K feW&&(Eu K feL&&(LD K&&lj K))))
def Eb(K:f_):ae FuncBody:=(fdOf K 668).body::(fdOf K 897).body::(fdOf K 902).body::FA.map λ e=>(fdOf K e.f).body
def Kh(P:cC):ae FuncBody:= .stmts (AD P):: .stmts (hZ P).bA:: .stmts (vU P).bA::FA.map λ e=> .stmts (e.b P).bA
structure N7(prog:aK)(w:bw)(as:ae au)(s:ar):Prop where
 a:tabsOk (fragOf s.heap as) TT=true
 b:KE (fragOf s.heap as)=true
 c:Eb (fragOf s.heap as)=Kh (P0 prog w)
 d:s.heap.get? dL=af (td #[])
 e:(s.heap.get? df).isSome=true
section
variable{prog:aK}{w:bw}
theorem KN{as:ae au}{s:ar}(y:N7 prog w as s):∃W:WK prog w,W.K=fragOf s.heap as/\UK W/\LK W/\LD W.K=true/\lj W.K=true/\s.heap.get? dL=af (td #[])/\∃o,s.heap.get? df=af o:=
 have b1:=aG y.b
 have b2:=aG b1.2
 have b3:=aG b2.2
 have b4:=aG b3.2
 have b5:=aG b4.2
 have c1:=ql y.c
 have c2:=ql c1.2
 have c3:=ql c2.2
 ⟨⟨fragOf s.heap as,y.a,b1.1,c3.2⟩,rfl,⟨b2.1,c1.1⟩,⟨b3.1,c2.1,b4.1,c3.1⟩,b5.1,b5.2,y.d,js.mp y.e⟩
theorem Po{K:f_}{h:Heap}(hK:K.In h)(c:lj K=true):isCodeTable h dL:=
 (yx hK c).elim λ o z=>z.elim λ vs z=>z.elim λ aa z=>z.elim λ aa z=>z.elim λ aa z=>z.elim λ aa z=>z.elim λ aa z=>z.elim λ aa z=>z.elim λ aa z=>⟨v_,o,vs,z.1,z.2.1,z.2.2.1,z.2.2.2.1⟩
def Cg(h:Heap):Heap:=hideAll h [dL]
theorem sB{h:Heap}{b:au}{o:Obj}(e:h.get? b=af o)(n:b≠dL):(Cg h).get? b=af o:=hideAll_get _ e (by simpa using n)
theorem Ch{h:Heap}:(Cg h).get? dL=none:=hideAll_none [dL] aW
theorem DZ{h:Heap}{a:au}{m:bM->aq am}(x:h.Ns a m)(n:a≠dL):(Cg h).Ns a m:=let ⟨o,es,ep,e,r⟩:=x; ⟨o,es,ep,sB e n,r⟩
theorem QS{p:aK}{loose:ae bM}{mg mb:bM->aq am}{h:Heap}(T:nS p loose mg mb h):nS p loose mg mb (Cg h):=
 ⟨DZ T.g (by decide),DZ T.b (by decide),let ⟨mc,a,b⟩:=T.nolimit; ⟨mc,DZ a (by decide),b⟩,T.builtins,T.free⟩
theorem Oq{K:f_}{p:aK}{loose:ae bM}{mg mb:bM->aq am}{h h':Heap}(hK:∀a o,K.lookup a=af o->h.get? a=af o/\a≠dL)(T:nS p loose mg mb h)(hs:∃o,h.get? df=af o)(k:∀b o,h.get? b=af o->h'.get? b=af o):JB K (λ a=>(Cg h').get? a):=
 ⟨Cg h,p,loose,mg,mb,λ a o e=>sB (hK a o e).1 (hK a o e).2,QS T,hs.imp λ aa ho=>sB ho (by decide),λ a o e=>sB (k _ _ (of_hideAll _ e)) λ q=>nomatch (q▸e:(Cg h).get? dL=af o).symm.trans Ch⟩
theorem old_kept{h h':Heap}{ps:bD am}{oT:Obj}(it:isCodeTable h dL)(ht:h.get? dL=af (td #[]))(hT:h'.get? dL=af oT)(e:oT=td ps)(kp:∀a o,a≠dL->h.get? a=af o->h'.get? a=af o):OldK h h' where
 old:=λ b o q=>(rn (b=dL)).elim (λ z=> .inr (.inl (z▸(ak (ht.symm.trans (z▸q)))▸⟨it,rfl,#[],ps,rfl,hT.trans (ah af (e.trans (ah td Array.empty_append.symm)))⟩))) λ n=> .inl (kp _ _ n q)
 there:=λ b o q=>(rn (b=dL)).elim (λ z=>⟨oT,z▸hT⟩) λ n=>⟨o,kp _ _ n q⟩
theorem LG{W:WK prog w}(U:UK W)(L:LK W)(hc:lj W.K=true){p:aK}{loose:ae bM}{mg mb:bM->aq am}{s:Heap}{s₁:ar}(hK:∀a o,W.K.lookup a=af o->s.get? a=af o/\a≠dL)(T:nS p loose mg mb s)(hsy:∃o,s.get? df=af o)
  (k:∀b o,s.get? b=af o->s₁.heap.get? b=af o) (ht:s₁.heap.get? dL=af (td #[])) (hg:s₁.gens=#[]) {l:au} {o:Obj} {vs:bD am} {ns:ae Int} (ho:s₁.heap.get? l=af o) (hl:iX o vs) (hi:cw ns vs.toList) (hn:ns.length<=63) (hb:∀v∈ns,v.natAbs < 2 ^ 1048576):
  dO true (aE prog w) tY (.call (.ref 902) ⟨[.ref l],[]⟩) (G7 λ v s'=>v= .bool true/\OldK s₁.heap s'.heap/\s'.os=s₁.os/\AllBare s'.gens) s₁:=
 have Iu:l≠dL:=λ q=>hl.elim λ n e=>Value.noConfusion (ah Obj.cls ((ak (ht.symm.trans (q▸ho))).trans e):c8= .type "list")
 X.eh ((XU (W:=W) (X:=λ aa=>True) (hX:=λ aa aa aa h=>h) U L (cE _) hn hb).run tY (λ a=>(Cg s₁.heap).get? a) [dL] s₁ [.ref l] rfl ⟨show tY.depth+3 * 27 < 990 by decide,show tY.units+12 * 27 < 9800 by decide,rfl⟩ ⟨Oq hK T hsy k,trivial⟩
  {kg:=λ a o e=>of_hideAll _ e,len:=rfl,nd:=dS.mpr ⟨bN,f8⟩,fr:=λ a ha=>aZ.mp ha▸Ch
   obj:=λ i a ao Xp e=>match i,Xp,e with
    |0,Xp,e=>ak Xp▸ak e▸⟨_,ht,#[],rfl,trivial, .inl rfl⟩}
  (bI.cons (VR.Qp (sB ho Iu) hl hi) bI.nil))
  (n8 λ v s' z=>z.casesOn λ G' ρ' av mem' h kp nw gf gz=>h.2.1.elim λ τ e=>
   (h.2.2.1.at (i:=0) ((eI ..).symm.trans h.2.2.2.2.2)).elim λ a q=>q.elim λ oT q=>q.2.2.elim λ ps t=>
    have ea:a=dL:=ak (q.1.symm.trans (e▸rfl))
    ⟨(h.2.2.2.2.1▸h.2.2.2.1:VR G' ρ' (.bool true) v),old_kept (Po (K:=W.K) (λ a o e=>k _ _ (hK a o e).1) hc) ht (ea▸q.2.1) t.1 λ a o n=>kp a o λ hm=>n (aZ.mp hm),gz.2,gz.1.2 (hg▸AllBare.empty)⟩)
end
def q9(p:aK):OpenLaw:={prog:=p,name:="law",about:=["ac_values"],foot:=9,most:=af 63,bound:=none,writes:=false}
def mC(p:aK):ClaimW:=(q9 p).row.toRowW.claim
theorem Ix{d:WData}(h:sf [] d .int=true):∃i:Int,d= .int i:=by
 cases d
 case int i=>exact⟨i,rfl⟩
 all_goals exact bt (show false=true from h) aV
theorem wx:∀{xs:ae WData},WShape.hasItems [] xs .int=true->∃ns:ae Int,xs=ns.map WData.int
 |[],_=>⟨[],rfl⟩
 |x::r,h=>have h:=aG (show(sf [] x .int&&WShape.hasItems [] r .int)=true from h)
  (Ix h.1).elim λ i e=>(wx h.2).elim λ ns q=>⟨i::ns,e▸ah _ q⟩
theorem ER{d:WData}(h:sf [] d (.list .int)=true):∃ns:ae Int,d= .list (ns.map WData.int):=by
 cases d
 case list xs=>exact(wx ((Bool.or_false _).symm.trans h)).elim λ ns e=>⟨ns,ah _ e⟩
 all_goals exact bt (show false=true from h) aV
theorem IR{p:aK}{args:ae WData}(h:(mC p).pre args=true):∃ns:ae Int,args=[.list (ns.map WData.int)]/\ns.length<=63:=by
 have h:=aG (show(WShape.hasAll [] args [.list .int]&&(q9 p).pre.holds [] {args:=args})=true from h)
 refine(hasAllW_cons h.1).elim λ d z=>z.elim λ r z=>(ER z.2.1).elim λ ns e=>⟨ns,?_⟩
 have ea:args=[.list (ns.map WData.int)]:=z.1.trans (hasAllW_nil z.2.2▸e▸rfl)
 refine⟨ea,?_⟩
 have h2:=condW_of (t:= .and (.not (.lt (.lit (.int 63)) (.len (.arg 0)))) (.lit (.bool true))) (ea▸h.2) (w_and (w_not (w_lt w_lit (w_len_list (w_arg rfl)))) w_lit)
 have h3:(!decide ((63:Int) < ((ns.map WData.int).length:Nat)))=true:=(aG h2).1
 rw[bJ] at h3
 exact pH.mp (gV.mp (oC (nb h3)))
theorem Qc{p:aK}(args ds:ae WData):(mC p).post args (.bool true) ds=true:=
 show(sf [] (.bool true) .bool&&WTm.holds [] (.eq .res (.lit (.bool true))) {args:=args,res:=af (.bool true),after:=ds})=true from(ah (sf [] (.bool true) .bool&&·) (holdsW_of_value (w_eq_bool (w_res rfl) w_lit))).trans rfl
theorem Zr{xs:ae WData}{k:Nat}(h:WData.weightAll xs<=k):∀x∈xs,WData.weight x<=k:=by
 induction xs with
 |nil=>exact λ x hx=>nomatch hx
 |cons y r ih=>
  have h:WData.weight y+1+WData.weightAll r<=k:=by unfold WData.weightAll at h; exact h
  intro x hx
  rcases bW.mp hx with rfl|hx
  ·omega
  ·exact ih (by omega) x hx
theorem Lm{i:Int}{k:Nat}(h:WData.weight (.int i)<=k):i.natAbs < 2 ^ k:=by
 unfold WData.weight at h
 split at h
 ·rename_i q
  have:i=0:=by simpa using q
  subst this
  exact Nat.pow_pos (by decide)
 ·rename_i q
  have hn:i.natAbs≠0:=by
   intro z; apply q; simpa using Int.natAbs_eq_zero.mp z
  exact ff (Nat.lt_log2_self (n:=i.natAbs)) (ry (by decide) h)
theorem LJ{ns:ae Int}(h:WData.layableAll [.list (ns.map WData.int)]=true):∀v∈ns,v.natAbs < 2 ^ 1048576:=by
 have h:(WData.canLay (.list (ns.map WData.int))&&decide (WData.depth (.list (ns.map WData.int))<=64)&&decide (WData.weight (.list (ns.map WData.int))<=2 ^ 20))=true:=(aG (show(WData.layable _&&true)=true from h)).1
 have hw:WData.weightAll (ns.map WData.int)<=1048576:=a4 (aG h).2
 exact λ v hv=>Lm (Zr hw _ (g7 hv))
theorem lay_ints{R:WRecords}{cl:bM->aq au}{P:Params}{ord:ae bi->ae bi}:∀(ns:ae Int) (s:ar),∃vs t,layAllW R cl P ord (ns.map WData.int) s=af (vs,{s with toks:=t})/\cw ns vs
 |[],s=>⟨[],s.toks,rfl,rfl⟩
 |i::r,s=>(lay_ints (R:=R) (cl:=cl) (P:=P) (ord:=ord) r {s with toks:=s.toks+1}).elim λ vs z=>z.elim λ t z=>⟨.int i s.toks::vs,t,
  (ah (λ q:aq (ae am×ar)=>match q with
   |some r=>af (eA i s.toks::r.1,r.2)
   |Option.none=>Option.none) z.1:),s.toks,vs,rfl,z.2⟩
theorem LL{R:WRecords}{cl:bM->aq au}{P:Params}{ord:ae bi->ae bi}(ns:ae Int)(s:ar):∃(vs:ae am) (t:Nat),layAllW R cl P ord [.list (ns.map WData.int)] s=af ([.ref s.heap.objs.size],{s with toks:=t,heap:=s.heap.push {cls:= .type "list",data:= .seq vs.toArray}})/\cw ns vs:=
 (lay_ints (R:=R) (cl:=cl) (P:=P) (ord:=ord) ns s).imp λ vs z=>z.imp λ t z=>⟨by unfold layAllW layW; rw[z.1]; rfl,z.2⟩
noncomputable def R1(vs:ae am):Obj:=⟨.type "list",none, .seq vs.toArray 0,#[]⟩
def sG(s:ar)(t:Nat)(vs:ae am):ar:={s with toks:=t,heap:=s.heap.push (R1 vs)}
theorem IZ{p q:aK}{w:bw}{as:ae au}{s:ar}{ord:ae bi->ae bi}{args:ae WData}{loose:ae bM}{mg mb:bM->aq am}{Q:Prop}(has:dL∉as)(TR:nS q loose mg mb s.heap)(hg:s.gens=#[])(y:N7 p w as s)(Ph:∀l,(ord l).Perm l)
  (Lg:(mC p).pre args=true) (Pg:WData.layableAll args=true)
  (k:∀vs t bs,layAllW [] (classAt s.heap) w.params ord args s=af ([.ref s.heap.objs.size],sG s t vs)->Laid [] w s (sG s t vs) args [.ref s.heap.objs.size] bs->(sG s t vs).heap.life=s.heap.life->mg "law"=af (.ref 902)->
   dO true (aE p w) tY (.call (.ref 902) ⟨[.ref s.heap.objs.size],[]⟩) (G7 λ v s'=>v= .bool true/\OldK (sG s t vs).heap s'.heap/\s'.os=(sG s t vs).os/\AllBare s'.gens) (sG s t vs)->Q):Q:=
 (IR Lg).elim λ ns z=>(KN y).elim λ W f=>(LL (R:=[]) (cl:=classAt s.heap) (P:=w.params) (ord:=ord) ns s).elim λ vs l=>l.elim λ t l=>
  have e:layAllW [] (classAt s.heap) w.params ord args s=af ([.ref s.heap.objs.size],sG s t vs):=z.1▸l.1
  have al:=layAllW_rest _ _ _ e
  have kp:=layAllW_keeps _ _ _ e
  have hK:∀a o,W.K.lookup a=af o->s.heap.get? a=af o/\a≠dL:=λ a o q=>(Im (f.1▸q)).imp_right λ m z=>has (z▸m)
  (reads_layAllW Ph _ _ _ e Pg _ (λ aa aa q=>q)).elim λ bs r=>
   k vs t bs e ⟨⟨ord,Ph,e⟩,r.1,r.2.1,r.2.2,kp,al.1.trans hg,al.2.2.1⟩ al.2.2.2 (mg_of (λ a o q=>(hK a o q).1) TR.g (LF f.2.2.2.1))
    (LG f.2.1 f.2.2.1 f.2.2.2.2.1 hK TR f.2.2.2.2.2.2 kp (kp _ _ f.2.2.2.2.2.1) (al.1.trans hg) (show(sG s t vs).heap.get? s.heap.objs.size=af (R1 vs) from aN _ rfl) ⟨_,rfl⟩ l.2 z.2 (LJ (z.1▸Pg)))
def SC(p:aK)(s s₁:ar)(args:ae WData)(a:au)(r:iP)(s':ar):Prop:=(mC p).Ends s args [.ref a] s₁ r s'/\s'.os=s.os
theorem MG{p:aK}{w:bw}{s s₁:ar}{args:ae WData}{a:au}{bs:ae au}{mg:bM->aq am}(TR:s.heap.Ns dG mg)(laid:Laid [] w s s₁ args [.ref a] bs)(hz:s₁.asleep)(hmg:mg "law"=af (.ref 902))
  (e:dO true (aE p w) tY (.call (.ref 902) ⟨[.ref a],[]⟩) (G7 λ v s'=>v= .bool true/\OldK s₁.heap s'.heap/\s'.os=s₁.os/\AllBare s'.gens) s₁):
  ∃n r s' s'',schedN (denote table) p w n (.single s₁ ⟨(callStub "law" [.ref a]).cur, .builtin "claim.caller" {},default,[]⟩)= .halted (tZ r) s''/\runN (denote table) p w n s₁ ⟨(callStub "law" [.ref a]).cur, .builtin "claim.caller" {},default,[]⟩= .halted (tZ r) s''/\
   s''.forget=s'.forget/\SC p s s₁ args a r s':=
 To (R:=SC p s s₁ args a) hz (X.cL (X.any (wpAny_nsGet (TR.keeps laid.keeps) (hmg.symm▸X.cL (X.calls (X.eh e λ r s' z=>
  z.u (Q:=λ r s'=>match r with | .ok (.ret v)=>cK true (aE p w) tY (ret v) (λ fin s'=>∃f,fin=Fin.done f/\SC p s s₁ args a (.ok f) s'/\leftWithCleanup s'.gens=false) s'|_=>False) λ v z=>
  have g:GoodWG (mC p) (classAt s.heap) (ExcName.means s.heap) args s₁ (.ok (.ret (.bool true))) s':=⟨.inl ⟨.bool true, .bool true,[],rfl,λ aa=>rfl, .bool true,Qc _ _,λ aa=>⟨f8,λ a ha=>nomatch ha⟩⟩,z.2⟩
  have q:=GoodWG.laid (c:=mC p) rfl rfl (λ a b=>ident_freeW rfl rfl rfl a b) laid g
  X.ret ⟨_,rfl,⟨z.1▸q.1,q.2.1⟩,leftWithCleanup_false_of_bare q.2.2⟩))))))
theorem MF{p q:aK}{w:bw}{as:ae au}{s:ar}{loose:ae bM}{mg mb:bM->aq am}{free:au->Prop}{gens:Prop}{kept:Heap->Prop}(has:dL∉as)(TR:nS q loose mg mb s.heap)(hg:s.gens=#[])(hz:s.asleep)(y:N7 p w as s)(hk:∀h,kept h):
  (mC p).CallFrom (callStub "law") w free gens kept s:=λ args Lg Pg ord Ph=>
 IZ has TR hg y Ph Lg Pg λ vs t bs e laid lf hmg c=>(MG TR.g laid (Shared.asleep_of_life lf hz) hmg c).elim λ n z=>z.elim λ r z=>z.elim λ s2 z=>z.elim λ s3 z=>
  have q:=Shared.forget_eq z.2.2.1
  ⟨_,sG s t vs,e,n,_,s3,z.1,(z.2.2.2.1.congr q.1).imp (cP λ v d=>⟨ah tZ d.1,d.2.1,d.2.2.1,d.2.2.2.1,λ b o y aa=>d.2.2.2.2.1 b o y,d.2.2.2.2.2⟩) (cP λ e=>cP λ ob=>cP λ cls d=>⟨ah tZ d.1,d.2.1,d.2.2.1,d.2.2.2.1,d.2.2.2.2.1,λ b o y aa=>d.2.2.2.2.2 b o y⟩),
   λ aa i x hx=>bt ((ah (λ g:bD d6=>g[i]?) hg).symm.trans hx) (by rw[Array.getElem?_empty]; exact λ h=>nomatch h),hk _,ah (λ l:Life=>l.seen) ((runN_life _ _ _ z.2.1).trans lf),Shared.rest_eq (q.2.2.2.1.trans z.2.2.2.2)⟩
theorem Iw{p q:aK}{loose:ae bM}{as:ae au}{N:Nat}{d:DefRec}{kwd:ae (bM×aB)}(has:dL∉as)(left:LeftO p q loose (λ aa=>true) (λ s=>∀w,N7 p w as s) (λ aa=>True) N)(hch:chainsOk q=true)(ow:opensWell p=true)(hb:p.bare)
  (aa7:defOf q "law"=af (d,kwd)) (hp:p.theDef "law"=af (d.params,d.body,d.scope)) (hk:kwWritten? d.params.kwonlyargs d.params.kw_defaults=af kwd) (prom:(q9 p).row.toRowW.promised) (UX:(q9 p).row.wellSaid=true):(q9 p).row.Holds:=
 ⟨UX,prom,⟨hb,ow,rfl⟩,prom.witness,λ w=>have z:=left.behind (XP:=λ aa aa=>True) (λ aa aa=>trivial) hch w
  ⟨z.1,λ s' Xu=>(z.2 s' Xu).imp λ kR z=>⟨z.1,z.2.1,z.2.2.imp λ s z=>have hg:s.gens=#[]:=Array.eq_empty_of_size_eq_zero (be.mp z.2.2.1)
   ⟨z.1,λ n hn=>aZ.mp hn▸pinned_of_view z.2.2.2.1 z.2.2.2.2.1 aa7 hp hk,(λ x hx=>nomatch hx),(λ x hx=>nomatch hx),MF has (topRead_of z.2.2.2.2.1.T) hg z.2.1 (of_eq_true (p:=∀w,N7 p w as s) z.2.2.2.2.2 w) λ h e=>nomatch e⟩⟩⟩⟩
end Mine
set_option maxHeartbeats 0
namespace Mine
def HC(tb:cR->aq b7)(p:aK)(w:bw)(CO:Nat)(ann:aq am)(n:Nat):kU->Thread->aq kU:=DM (motive:=λ aa=>kU->Thread->aq kU) (λ aa aa=>none)
 (λ aa k s t=>aY (through t) (af s) (aY (stepOk CO ann t) (ob (stepT (denote tb) p w s t) λ r=>k r.1 r.2) none)) n
section
variable{tb:cR->aq b7}{p:aK}{w:bw}{CO n:Nat}{ann:aq am}{s s':ar}{t t':Thread}{x:aq ar}
theorem UW(e:through t=true):DO tb p w CO ann (n+1) s t=af s:=by
 unfold DO
 rw[e]
theorem UV(e:through t=false)(k:stepOk CO ann t=true)(h:step (denote tb) p w s t= .go s' t')(q:DO tb p w CO ann n s' t'=x):DO tb p w CO ann (n+1) s t=x:=by
 unfold DO
 rw[e,k,h]
 exact q
theorem xc:∀{n:Nat} {s s':kU} {t:Thread},HC tb p w CO ann n s t=af s'->DO tb p w CO ann n s.abs t=af s'.abs
 |0,_,_,_=>λ h=>cu h
 |_+1,_,_,_=>λ h=>condB h (λ e h=>(UW e).trans (ah (λ x=>af x.abs) (ak h))) λ e h=>condB h (λ k h=>ob.u h λ aa q h=>UV e k (stepT_spec q) (xc h)) λ aa h=>cu h
end
def toBT:ae Obj->Nat->BT->aq (BT×Nat)
 |[],n,T=>af (T,n)
 |o::r,n,T=>aY ((T.ins n o).get n).isSome (toBT r (n+1) (T.ins n o)) none
theorem toBT_abs(life:Life):∀{l:ae Obj} {n:Nat} {T:BT} {T':BT} {n':Nat},toBT l n T=af (T',n')->DG T' n' life=⟨(DG T n life).objs++l.toArray,life⟩
 |[],n,T,T',n'=>λ h=>have e:=gA (ak h); e.1▸e.2▸ah (Heap.mk · life) Array.append_empty.symm
 |o::r,n,T,T',n'=>λ h=>condB h (λ e h=>(toBT_abs life h).trans (ah (Heap.mk · life) (by
   rw[absHeap_ins e]
   show(DG T n life).objs.push o++r.toArray=_
   rw[Array.push_eq_append,Array.append_assoc]
   exact ah _ (List.append_toArray [o] r)))) λ aa h=>cu h
def WW(tb:cR->aq b7)(p:aK)(w:bw)(N:Nat)(kR:ar):aq kU:=
 aY (kR.heap.isNs dG&&kR.gens.size==0) (ob (toBT kR.heap.objs.toList 0 .nil) λ T=>ob (HC tb p w T.2 (kR.heap.nsMap dG "__annotations__") N ⟨T.1,T.2,kR.heap.life,kR.gens,kR.drawn,kR.toks,kR.os⟩ (topStub p)) λ s₁=>
  aY (staticsOk (Be p.main.body) kR.heap s₁.abs.heap&&namesBound p s₁.abs.heap&&gensDone s₁.abs&&laidKept kR.heap s₁.abs.heap) (af s₁) none) none
theorem O8{tb:cR->aq b7}{p:aK}{w:bw}{N n:Nat}{kR So s₁:ar}(a:(kR.heap.isNs dG&&kR.gens.size==0)=true)(hs:So=kR)(hn:n=kR.heap.objs.size)(b:DO tb p w n (kR.heap.nsMap dG "__annotations__") N So (topStub p)=af s₁)
  (c:(staticsOk (Be p.main.body) kR.heap s₁.heap&&namesBound p s₁.heap&&gensDone s₁&&laidKept kR.heap s₁.heap)=true):topFrom tb p w N kR=af s₁:=by
 subst hs hn
 unfold topFrom
 rw[a]
 dsimp only
 rw[b,lh,c]
theorem Od{h:Heap}{T:BT×Nat}(e:toBT h.objs.toList 0 .nil=af T):DG T.1 T.2 h.life=h:=by
 rw[toBT_abs h.life (T':=T.1) (n':=T.2) e]
 simp [DG,BT.list]
theorem OS{tb:cR->aq b7}{p:aK}{w:bw}{N:Nat}{kR:ar}{s:kU}(h:WW tb p w N kR=af s):topFrom tb p w N kR=af s.abs:=
 condB h (λ e h=>ob.u h λ T hT h=>ob.u h λ s₁ h1 h=>condB h (λ e2 h=>have e3:=Od hT
  (O8 e (ah (λ h=>{kR with heap:=h}) e3) ((absHeap_size ..).symm.trans (ah (λ h=>h.objs.size) e3)) (xc h1) e2).trans (ah (λ x=>af x.abs) (ak h))) λ aa h=>cu h) λ aa h=>cu h
def endsP(p:aK)(w:bw):aq kU:=(fencedOpening treeTable p w 13100).bind λ kR=>WW treeTable p w 13100 kR
def seenP(p q:aK)(loose:ae bM)(s:kU):=openSeen q loose (Be p.main.body) (λ aa=>true) true s.abs
lay_quick endsP seenP openGood
theorem Pw{p q:aK}{loose:ae bM}{Yf:ar->Prop}(h:∀w,(endsP p w).map (seenP p q loose)=af (openGood q loose))(y:∀w s,endsP p w=af s->Yf s.abs):LeftO p q loose (λ aa=>true) Yf (λ aa=>True) 13100:=λ w=>
 (eH.mp (h w)).elim λ s z=>(Option.bind_eq_some_iff.mp z.1).elim λ kR q=>by
  unfold openEnds
  rw[q.1,lh,OS q.2]
  exact ah af (Prod.ext z.2 (eq_true (y w s z.1)))
def ED(s:kU)(a:au):aq Obj:=match fK a s.n with
 |true=>alive ((s.tree.get a).getD default)
 |false=>none
theorem zT(s:kU)(a:au):ED s a=s.abs.heap.get? a:=by
 unfold ED
 cases e:fK a s.n with
 |true=>
  have h:a < s.n:=aP e
  show alive _=(DG s.tree s.n s.life).get? a
  cases g:s.tree.get a with
  |some o=>exact(abs_get h g).symm
  |none=>unfold Heap.get?; rw[absHeap_at,dj h,g]; rfl
 |false=>exact(abs_get_none λ h=>ay ((cY h).symm.trans e)).symm
def wl(s:kU)(l:ae au):f_:=KS (ED s) l
theorem wm(s:kU)(l:ae au):wl s l=fragOf s.abs.heap l:=ah (KS · l) (funext (zT s))
theorem map_some{α β:Type}{o:aq α}{f:α->β}{b:β}(h:o.map f=af b){s:α}(e:o=af s):f s=b:=ak ((ah (e6 f) e).symm.trans h)
noncomputable def Jt:ae au:=(eu 910).filter λ a=>!a_ a 677
noncomputable def EU:ae bM:=gQ.boundNames.filter (· !="law")
theorem N7.of{p:aK}{w:bw}{s:kU}(a:tabsOk (wl s Jt) TT=true)(b:KE (wl s Jt)=true)(c:Eb (wl s Jt)=Kh (P0 p w))(d:(ED s dL,(ED s df).isSome)=(af (td #[]),true)):N7 p w Jt s.abs:=
 ⟨wm s Jt▸a,wm s Jt▸b,wm s Jt▸c,(zT s dL).symm.trans (gA d).1,(ah Option.isSome (zT s df)).symm.trans (gA d).2⟩
def wellP(p:aK):aC:=(q9 p).wellSaid
lay_quick wellP
noncomputable abbrev E8:=gQ
theorem Si(w w':bw):(endsP E8 w).map (λ s=>(seenP E8 (view E8 [82]) EU s,(ED s dL,(ED s df).isSome),Eb (wl s Jt)))=af (openGood (view E8 [82]) EU,(af (td #[]),true),Kh (P0 E8 w')):=by
 rw[PySem.W.Fast.te1907667993246908095,PySem.W.Fast.te8242757353448015592,PySem.W.Fast.te3486900944545009338]
 kernel_rfl
theorem YL(w:bw):(endsP E8 w).map (λ s=>tabsOk (wl s Jt) TT)=af true:=by
 rw[PySem.W.Fast.te1907667993246908095]
 kernel_rfl
theorem YK(w:bw):(endsP E8 w).map (λ s=>KE (wl s Jt))=af true:=by
 rw[PySem.W.Fast.te1907667993246908095]
 kernel_rfl
theorem LN:LeftO E8 (view E8 [82]) EU (λ aa=>true) (λ s=>∀w,N7 E8 w Jt s) (λ aa=>True) 13100:=
 Pw (λ w=>(eH.mp (Si w w)).elim λ s z=>eH.mpr ⟨s,z.1,(gA z.2).1⟩) λ w s e w'=>have z:=(gA (map_some (Si w w') e)).2
  N7.of (map_some (YL w) e) (map_some (YK w) e) (gA z).2 (gA z).1
theorem MN:wellP E8=true:=by
 rw[PySem.W.Fast.te10261682018367036896]
 kernel_rfl
end Mine
set_option maxHeartbeats 0
namespace Mine
theorem PX:dL∉Jt:=by decide+kernel
theorem Ms:(q9 E8).row.toRowW.promised:=⟨[.list []],by rfl,by rfl⟩
theorem Qq(UX:(q9 E8).row.wellSaid=true):(q9 E8).row.Holds:=
 Iw PX LN (by decide+kernel) (by decide+kernel) ⟨rfl,rfl,rfl,rfl,rfl,by decide+kernel⟩ (by rfl) (by rfl) (by rfl) Ms UX
theorem Pu:(q9 E8).Holds:=holds_law MN Qq
end Mine
end
theorem PySem.Challenge.cw_nz0260_01_holds : PySem.Challenge.rw_nz0260_01.Holds :=
 Mine.Pu
