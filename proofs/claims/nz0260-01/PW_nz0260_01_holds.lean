import PyProof.Rows.All
import Wide.All
import KE.BytesMake
import KE.IntBitsLaws
import KE.KDictList
import KE.KDictOf
import KE.KDictSum
import KE.KEqDict
import KE.KLam
import KE.KNest
import Open.FastT9
import Open.Line
import OpenK.KCall
import OpenK.KCls
import OpenK.KGet
import OpenK.KLine
import OpenK.KMake
import OpenK.KWalk
import OpenK.Peek
import OpenK.TopRead
import OpenK.XSeg
import Wide.FinOn
import Lean
import PySem.Challenge.RW_nz0260_01
-- Joined from the texts of wip/ and shortened by the programs of wip/tools (join2, minify, squeeze): the same declarations under shorter names.
open And renaming imp_right→iQ,intro→vR,left→eH,right→gh
open Array renaming any_toList→uO,getElem?_eq_getElem→e9,getElem?_eq_none→Bs,getElem?_toList→bP,length_toList→bh,mem_toList_iff→gM,toArray_toList→D8,toList_append→mu,toList_inj→uP,toList_push→JC,toList_setIfInBounds→xQ,toList→px
open Bool renaming and_eq_true_iff→bN,and_eq_true→jl,and_false→d9,false_eq_true→tj,false_ne_true→aX,noConfusion→ay,not_true→iP,or_eq_true_iff→g_,rec→iK
open Classical renaming em→d5
open Decidable renaming em→n6
open Exists renaming elim→aD,imp→cR,intro→i8
open ForInStep renaming yield→oD
open Int renaming add_le_add→rC,add_one_le_of_lt→Ib,ediv_lt_of_lt_mul→F0,ediv_nonneg→xR,emod_lt_of_pos→kq,emod_nonneg→my,eq_ofNat_of_zero_le→py,fdiv_eq_ediv_of_nonneg→jc,fmod_eq_emod_of_nonneg→jd,le_antisymm→e_,le_max_left→qq,le_max_right→pA,le_of_eq→dX,le_of_lt_add_one→Ic,le_of_lt→eY,le_refl→dT,le_sub_one_of_lt→jf,le_trans→aO,lt_iff_le_and_ne→Ie,lt_of_le_of_lt→gD,lt_of_lt_of_le→kt,lt_or_eq_of_le→tv,lt_trans→dr,min_le_left→qr,min_le_right→pB,mul_le_mul_of_nonneg_left→fG,mul_le_mul_of_nonneg_right→dY,mul_lt_mul_of_pos_right→yw,mul_nonneg→rD,mul_one→rE,natAbs_of_nonneg→mh,natCast_nonneg→ku,ne_of_gt→jn,neg_le_neg→nA,not_lt→gZ,ofNat_le→pO,ofNat_lt→mY,ofNat_natAbs_of_nonpos→nC,pow_pos→xH,sub_le_sub_right→Ig,sub_nonneg_of_le→mi,toNat_lt→mZ,toNat_of_nonneg→sx,toNat→gS
open List renaming all_append→j5,all_eq_true→aZ,append_assoc→gT,append_nil→bS,cons_ne_nil→lP,cons→m5,contains_iff_mem→D9,drop_eq_nil_iff→F1,drop→jm,filterMap_cons_some→jX,find?_cons→xI,foldl→JD,forIn_cons→xJ,forall_mem_cons→aJ,getD_eq_getElem?_getD→gB,getElem?_append_left→dD,getElem?_append_right→eR,getElem?_concat_length→xS,getElem?_eq_getElem→d_,getElem?_eq_none_iff→nV,getElem?_eq_none→ff,getElem?_eq_some_iff→jo,getElem?_inj→n7,getElem?_map→eT,getElem?_of_mem→l7,getElem?_toArray→qu,getLast?_eq_getElem?→nW,getLast?_eq_none_iff→zE,getLastD_eq_getLast?→nX,head_eq_of_cons_eq→Bt,isEmpty_iff→vg,length_append→bj,length_dropLast→F2,length_eq_one_iff→DX,length_eq_zero_iff→cZ,length_map→bL,length_pos_iff→fW,length_range'→JB,length_set→iM,length→f4,lookup_cons→f7,lookup→F3,map_congr_left→sr,map_cons→A8,map_fst_zip→hJ,map_inj_left→iS,map_map→t9,mem_append_left→dA,mem_append_right→cD,mem_append→fS,mem_cons_of_mem→aP,mem_cons_self→aR,mem_cons→bQ,mem_filterMap→JE,mem_flatMap→vh,mem_map_of_mem→hF,mem_map→dN,mem_of_getElem?→dB,mem_of_mem_drop→F4,mem_of_mem_take→F5,mem_range→q_,mem_reverse→vj,mem_singleton→be,nodup_append→gU,nodup_cons→dU,nodup_nil→gC,not_mem_nil→bK,pairwise_cons→JF,pairwise_singleton→pg,range'→f0,range→eB,rec→k6,replicate→eU,size_toArray→cT,tail_eq_of_cons_eq→Bu
open List.cons renaming inj→qt
open Nat renaming add_le_add_left→hN,add_le_add_right→fH,add_lt_add_right→rF,add_right_comm→cV,add_sub_cancel_left→hV,add_sub_of_le→uR,beq_refl→uS,beq→aT,ble_eq_true_of_le→c6,ble→bB,blt→eK,decEq→jp,eq_of_beq_eq_true→aL,le_add_right→bq,le_of_ble_eq_true→aQ,le_of_eq→aV,le_of_lt→eZ,le_of_succ_le_succ→lh,le_refl→cF,le_succ_of_le→uT,le_succ→xK,le_trans→aG,lt_add_of_pos_right→DY,lt_irrefl→fA,lt_of_le_of_lt→aU,lt_of_lt_of_eq→ir,lt_of_lt_of_le→fw,lt_of_succ_lt_succ→iw,lt_or_ge→D_,lt_succ_self→jq,lt_trans→b_,mul_le_mul_left→jG,mul_le_mul_right→Ih,ne_of_beq_eq_false→pP,ne_of_gt→uU,ne_of_lt→dO,not_lt_zero→mz,not_succ_le_zero→jg,one_mul→Ii,pow_le_pow_right→rG,rec→Ea,strongRecOn→xT,succ_add_eq_add_succ→oJ,succ_le_succ→eI,succ_lt_succ→gj,succ_ne_zero→cy,succ_pos→uV,succ_pred_eq_of_pos→DZ,succ→rH,zero_add→fB,zero_le→oE,zero_lt_succ→pC
open Nat.succ renaming inj→eL
open Option renaming bind_some→lA,isNone_iff_eq_none→jh,isSome_iff_exists→jx,map_eq_some_iff→eM,map→ef,or_eq_some_iff→Bv,rec→mU,some→af
open Option.some renaming inj→am
open Prod renaming snd→ph
open Prod.mk renaming inj→cU
open PyProof renaming noPylong_small→oK
open PyProof.Rows renaming subscriptTail→kU
open PyProof.Rows.F renaming entry_set_update_loop→oF,plain_set_update_loop→iN
open PySem renaming Addr→au,Arguments→qM,Around→bn,BindsTo→mV,Builtin→bV,CmpOp→ke,Code→vT,Comprehension→i9,DictEntry→bf,Expr→aB,Flow→mA,FuncData→dR,GenState→d7,IntMulOk→jH,IsRangeIter→Ba,Model→iy,NameKind→dJ,Operator→cH,Pos→c9,Program→aK,Result→iT,Scope→qN,Sem→im,Shared→ar,Slot→Bx,Stmt→f5,Str→bI,Thread→rJ,Tok→kx,Value→ak,World→bw,again→qP,argsOk→hW,assignEach→jI,assignInOrder→gG,behindInMarks→pQ,binaryOp→kV,bindName→m6,bm_if_false→Bc,builtinLookup_eq_fast→a4,builtinType_eq_fast→uW,builtinsNs→li,cLine→qQ,callAny→D5,callEnvC→eE,callType_codes→Ed,callerA→ud,checkBuiltinCall→iz,clipAt→mB,closureFor→Ee,codeAny_builtin→k8,codeAny_of_tree→Bz,compTurn→m7,compareOp→dz,comprehension→rM,constantsAlone→tx,entryFor_alias→Ef,entryFor_of_tree→eP,entryFor→fC,firstArgMember→jJ,foldedForSure→mX,foldedSetIterable→eh,getMethod_builtin→pM,getMethod→fJ,importedModules→BA,inplaceOp→mC,intBits_le_64→pR,intBits_le_iff→ty,intKind_is→vY,intKind→cE,int_index→JK,interactive→Bd,isInstance→rN,isSubtype_stop→Eg,isSubtype_type→cj,isTrue→kW,letOwnedTupleGo→dy,letTemporaryGo→iA,mainGlobals→dk,markedBehindIn_of_false→JL,model→aE,newExc→Eh,noteFrame→qR,operate→D6,outcomeOf→ue,plainId_quiet→kX,pyIter→iB,pyNext→gN,rawInt→nJ,recursionLimit→tz,relabel→rP,seqIndex?→j7,setAddHashed→rQ,setAttr→xV,setItem→eV,sizeLine_eq→dZ,sizeLine→gA,slot_list_getitem→Be,specialOf→uf,standAt→dp,starEach→fD,storeName→ug,stored→tA,swappedStores→i_,swapsWithSole→Ik,swapsWith→oH,sysModules→di,theTreesLotGoes→k9,tupleKind→g9,typeIs_int→mD,typeLookup_type→bF,typeLookup→hZ,typeOf→rR,unsupported→Bg,withoutEnding?→Ei,wpAny_askSetting→iC,wpAny_assign_Name→xW,wpAny_attempt→kY,wpAny_bind→aj,wpAny_callSpecial?_slot→de,wpAny_call_entry→cA,wpAny_call→vZ,wpAny_dictEntries→ei,wpAny_dictEpoch→nK,wpAny_fieldsOf→Ej,wpAny_holding→bU,wpAny_isInstance→eQ,wpAny_ite_split→BB,wpAny_items_nil→BC,wpAny_list_append_plain→JM,wpAny_load→iU,wpAny_mkInt→lB,wpAny_mono→c7,wpAny_newFunctionEnv_cells→Ek,wpAny_newObj_type→cP,wpAny_notOrdered_dict→mv,wpAny_of_eq→bu,wpAny_point→Bh,wpAny_pure→aw,wpAny_pyIter_list→xX,wpAny_pyIter_slot→xY,wpAny_pyNext_range_item→JN,wpAny_release→Il,wpAny_rule→mE,wpAny_sequenceKey→lQ,wpAny_setEntries_of→uX,wpAny_setField→oM,wpAny_setState_of→lR,wpAny_specialOf→cX,wpAny_standAt→h_,wpAny_truthy_bool→pN,wpAny_typeNameOfWhole_keyiter→iR,wpAny_typeNameOf_keyiter→pS,wpAny_typeOf→j8,wpAny→aH
open PySem.Around renaming under_plainId→eC
open PySem.BindsTo renaming of_defaults→D0
open PySem.BoolOp renaming And→F6,Or→JG
open PySem.Calls renaming call_function_entry→nF
open PySem.Challenge renaming pw_nz0260_01→gV
open PySem.Code renaming builtin→D1,quiet_builtin→JH
open PySem.Data renaming fields→ii,seq→t_
open PySem.Expr renaming Name→Eb
open PySem.F renaming called_set→rI,entry_dict_get→zF,plain_set_new→A9,slot_dict_get→pD,slot_dict_ne→Bw,slot_set_iter→A_
open PySem.FuncBody renaming stmts→fZ
open PySem.Heap renaming ExtBut→vU,SameBut→k7,get?_none_of_le→df,get?_push_of_some→aA,get?_push_size→aN,get?_update_other→D3,get?_update_self→dK,lt_size→b9
open PySem.Heap.SameBut renaming refl→qv,update→dF
open PySem.IntMulOk renaming of_left→F7,of_le→JI,of_right→kh
open PySem.Keeper renaming boundFrame→tt,frame→Bb,machine→xL
open PySem.NameKind renaming free→xM
open PySem.PyData renaming keyHash→qw
open PySem.Sem renaming bind_eq_wrap'→i2,bind_eq_wrap→vW,onRaise_eq_wrap→JJ,wp_mono→oG,wrap_wrap→j6
open PySem.Str renaming ofString→bT
open PySem.Value renaming bool→Ij,int→eD,isInt→vk,none→c_,ref→du,str→mW,type→cS
open PySem.Value.ref renaming inj→vX
open PySem.W renaming Frag→eJ,SharedT→fb,TopRead→n8,absHeap→D4,dictOf→nH,emptyDict→qO,handedIn→xU,instObj→gE,sortI→nI,tabObj→tw,topRun→Ec,typeIs_bytes→gH
open PySem.W.WShape renaming has→su
open PySem.W.X renaming s_again→rK,wake_any→By
open PySem.W.X.SegX renaming mono→el
open PySem.callAny renaming viaDunder→F8
open PySem.pickOrder renaming go→rO
open Std.Legacy.Range renaming forIn_eq_forIn_range'→na
open UInt8 renaming ofNat→eG
open _root_ renaming Array→bD,Bool→aC,Decidable→fF,List→ae,Option→aq,String→cQ,UInt8→b7,Unit→e6,absurd→bt,beq_eq_false_iff_ne→ed,beq_iff_eq→a_,beq_self_eq_true→qS,bne_iff_ne→rS,bne_self_eq_false→lS,cond→aY,congrArg→ah,decEq→nY,decide_eq_false→dj,decide_eq_true_eq→cY,decide_eq_true→cz,if_neg→bC,if_pos→dq,of_decide_eq_false→oN,of_decide_eq_true→bg,reduceIte→zG
open PySem PySem.W PySem.Spec PySem.Calls PyProof.Rows
set_option Elab.async false
set_option linter.all false
set_option maxRecDepth 100000
set_option genCtorIdx false
set_option genInjectivity false
set_option genSizeOf false
noncomputable section
namespace Mine
noncomputable def nT(p:qM)(xs:ae bI):aC:=p.posonlyargs.isEmpty&&(p.vararg.isNone&&(p.kwonlyargs.isEmpty&&(p.kwarg.isNone&&(p.args.map (·.arg)==xs))))
noncomputable def az:ae bI->ae Arg->ae Arg
 |[],_=>[]
 |x::xs,l=>{l.headD ⟨x,none,default⟩ with arg:=x}::az xs l.tail
noncomputable def vz:ae bI->ae ak->ae ak
 |[],_=>[]
 |_::xs,l=>l.headD .none::vz xs l.tail
theorem Gw:∀l:ae Arg,l=az (l.map (·.arg)) l
 |[]=>rfl
 |⟨x,t,p⟩::l=>ah (Arg.mk x t p::·) (Gw l)
theorem vQ:∀{xs:ae bI} {l:ae ak},l.length=xs.length->l=vz xs l
 |[],[]=>λ aa=>rfl
 |_::_,[]=>λ h=>nomatch h
 |[],_::_=>λ h=>nomatch h
 |_::_,v::l=>λ h=>ah (v::·) (vQ (eL h))
def pz(p:qM)(xs:ae bI):qM:={posonlyargs:=[],args:=az xs p.args,vararg:=none,kwonlyargs:=[],kw_defaults:=p.kw_defaults,kwarg:=none,defaults:=p.defaults}
theorem Zy{p:qM}{xs:ae bI}(h:nT p xs=true):p=pz p xs:=by
 obtain⟨a,b,c,d,e,f,g⟩:=p
 have h:=bN.mp h
 have h2:=bN.mp h.2
 have h3:=bN.mp h2.2
 have h4:=bN.mp h3.2
 obtain rfl:a=[]:=vg.mp h.1
 obtain rfl:c=none:=jh.mp h2.1
 obtain rfl:d=[]:=vg.mp h3.1
 obtain rfl:f=none:=jh.mp h4.1
 obtain rfl:b.map (·.arg)=xs:=a_.mp h4.2
 exact ah (λ b=>Arguments.mk [] b none [] e none g) (Gw b)
abbrev Yb(fd:dR)(xs:ae bI)(d:ak):dR:={fd with params:=pz fd.params xs,defaults:=d}
theorem Ls{fd:dR}{xs:ae bI}{d:ak}(hp:nT fd.params xs=true)(hd:fd.defaults=d):fd=Yb fd xs d:=congr (ah (λ p d=>{fd with params:=p,defaults:=d}) (Zy hp)) hd
def RS(xs:ae bI):Prop:=∀(fd:dR) (vs:ae ak),bindArgs (Yb fd xs .none) ⟨vz xs vs,[]⟩=pure (xs.zip (vz xs vs))
theorem uH{fd:dR}{xs:ae bI}(hb:RS xs)(hp:nT fd.params xs=true)(hd:fd.defaults= .none)(s:ar)(vals:ae ak)(l:vals.length=xs.length):mV s fd ⟨vals,[]⟩ (xs.zip vals):=by
 have h:=hb fd vals
 rw[← vQ l,← Ls hp hd] at h
 exact .of_eq h
noncomputable def Nz:ae bI:=["self","many","state"]
theorem EQ{fd:dR}{T:au}{o:Obj}{n:Nat}{v:ak}(hp:nT fd.params Nz=true)(hd:fd.defaults= .ref T)(s:ar)(ho:s.heap.get? T=af o)(hs:o.data= .seq #[v] n)
  (vals:ae ak) (l:vals.length=2):mV s fd ⟨vals,[]⟩ (Nz.zip (vals++[v])):=by
 rw[Ls hp hd,vQ (xs:=["self","many"]) l]
 exact D0 (fd:=Yb fd Nz (.ref T)) rfl ho hs rfl (by kernel_rfl)
theorem K7{fd:dR}{T:au}{o:Obj}{n:Nat}{v:ak}(hp:nT fd.params Nz=true)(hd:fd.defaults= .ref T)(s:ar)(ho:s.heap.get? T=af o)(hs:o.data= .seq #[v] n)
  (vals:ae ak) (l:vals.length=3):mV s fd ⟨vals,[]⟩ (Nz.zip vals):=by
 rw[Ls hp hd,vQ (xs:=Nz) l]
 exact D0 (fd:=Yb fd Nz (.ref T)) rfl ho hs rfl (by kernel_rfl)
theorem sY{fd:dR}{xs:ae bI}(hb:RS xs)(hp:nT fd.params xs=true)(hd:fd.defaults= .none)(s:ar)(vals:ae ak)(l:vals.length+0=xs.length):mV s fd ⟨vals,[]⟩ (xs.zip (vals++[])):=by
 rw[bS]; exact uH hb hp hd s vals l
noncomputable def Za(v:ak):aC:=match v with
 | .none=>true
 |_=>false
theorem ME{v:ak}(h:Za v=true):v= .none:=by
 rcases v
 case none=>rfl
 all_goals exact ay h
noncomputable def rW:ae cQ:=["bytearray.__contains__","bytearray.__mod__","bytearray.__rmod__","_struct.pack_into.held","bytearray.find.held"]++Builtin.Bytes.decodersThatHold
def Dd:vT->aC
 | .builtin id _=>!rW.contains id
 |_=>true
def Cln(Γ:PySem.Ctx):Prop:=Dd Γ.code=true/\∀x∈Γ.below,Dd x.1=true
def cL{α:Type}(J:aC)(M:iy)(A:bn)(t:im α)(Q:α->ar->Prop)(s:ar):Prop:=
 ∀Γ p,Γ.In A->(J=true->Cln Γ)->Sem.wp M Γ t (λ a aa s'=>Q a s') (λ aa aa aa=>False) p s
def dP(J:aC)(M:iy)(A:bn)(c:vT)(R:iT->ar->Prop)(s:ar):Prop:=
 ∀Γ p,Γ.code=c->Γ.Below A->(J=true->Cln Γ)->wpCode M Γ R p s
namespace X
section
variable{α β:Type}{J:aC}{M:iy}{A:bn}{s:ar}{env:Env}
theorem any{t:im α}{Q:α->ar->Prop}(h:aH M A t Q (λ aa aa=>False) s):cL J M A t Q s:=λ Γ p a aa=>h Γ p a
theorem back{t:im α}{Q:α->ar->Prop}(h:cL false M A t Q s):aH M A t Q (λ aa aa=>False) s:=λ Γ p a=>h Γ p a (λ e=>(nomatch e))
theorem less{t:im α}{Q:α->ar->Prop}(h:cL false M A t Q s):cL J M A t Q s:=any (back h)
theorem jt{t:im α}{Q:α->ar->Prop}(j:J=true)(h:cL true M A t Q s):cL J M A t Q s:=j▸h
theorem mono{t:im α}{Q Q':α->ar->Prop}(h:cL J M A t Q s)(hQ:∀a s,Q a s->Q' a s):cL J M A t Q' s:=
 λ Γ p a c=>oG M Γ t (λ a aa s=>hQ a s) (λ aa aa aa f=>f) p s (h Γ p a c)
theorem ret{a:α}{Q:α->ar->Prop}(h:Q a s):cL J M A (pure a) Q s:=λ aa aa aa aa=>h
theorem cM{m:im α}{f:α->im β}{Q:β->ar->Prop}(h:cL J M A m (λ a s'=>cL J M A (f a) Q s') s):cL J M A (m>>=f) Q s:=λ Γ p a c=>by
 rw[Sem.wp_bind']
 exact oG M Γ m (λ aa p' s' h'=>h' Γ p' a c) (λ aa aa aa h'=>h') p s (h Γ p a c)
theorem holds{vs:ae ak}{m:im α}{Q:α->ar->Prop}(h:cL J M A m Q s):cL J M A (holding vs m) Q s:=λ Γ p a c=>by rw[Sem.wp_holding]; exact h Γ p a c
theorem Jc{vs:ae ak}{m:im ak}{Q:ak->ar->Prop}(h:cL J M A m Q s):cL J M A (D6 vs m) Q s:=λ Γ p a c=>by rw[Sem.wp_operate]; exact h Γ p a c
theorem raises{m:im α}{k:ak->im e6}{Q:α->ar->Prop}(h:cL J M A m Q s):cL J M A (m.onRaise k) Q s:=λ Γ p a c=>by
 rw[Sem.wp_onRaise]
 exact oG M Γ m (λ aa aa aa h'=>h') (λ aa aa aa f=>f.elim) p s (h Γ p a c)
theorem at_{pos:c9}{f:e6->im β}{Q:β->ar->Prop}(h:cL J M A (f ()) Q s):cL J M A (dp pos>>=f) Q s:=cM (any (h_ h))
theorem XX{t:im α}{a:α}{Q:α->ar->Prop}(e:t=pure a)(h:Q a s):cL J M A t Q s:=by rw[e]; exact ret h
theorem drops{vs:ae ak}{keep:ae ak}{f:e6->im β}{Q:β->ar->Prop}(h:cL J M A (f ()) Q s):cL J M A (release vs keep>>=f) Q s:=cM (any (Il h))
theorem ut{Γ:PySem.Ctx}{c:vT}{h:aq ak}{p:c9}(ok:Dd c=true)(x:J=true->Cln Γ):J=true->Cln (Γ.enter c h p):=λ j=>by
 obtain⟨a,b⟩:=x j
 exact⟨ok,λ y hy=>by
  rcases bQ.mp hy with rfl|hy
  ·exact a
  ·exact b y hy⟩
theorem runs{c:vT}{h:aq ak}{Q:mA->ar->Prop}(ok:Dd c=true)
  (hc:dP J M (A.mark h) c (λ r s'=>match r with | .ok f=>Q f s' | .error _=>False) s) (hnb:h≠af byPass:=by nofun):cL J M A (run c h) Q s:=λ Γ p a x=>by
 rw[Sem.wp_run]
 have:=hc (Γ.enter c h p) p rfl (a.enter c h p hnb) (ut ok x)
 exact this
theorem ZI{c:vT}{Q:ak->ar->Prop}(ok:Dd c=true)
  (hc:dP J M A c (λ r s'=>match r with | .ok (.ret v)=>Q v s'|_=>False) s):cL J M A (runValue c) Q s:=λ Γ p a x=>by
 rw[Sem.wp_runValue]
 have h:=hc (Γ.enter c none p) p rfl (a.enter c none p (by intro x; cases x)) (ut ok x)
 exact wpCode_mono (λ r s' z=>by rcases r with _|(_|_|_|_)<;>exact z) h
theorem calls{f:ak}{pos:ae ak}{kw:ae (bI×ak)}{Q:ak->ar->Prop}
  (hc:dP J M A (.call f ⟨pos,kw⟩) (λ r s'=>match r with | .ok (.ret v)=>Q v s'|_=>False) s):cL J M A (call f pos kw) Q s:=ZI rfl hc
theorem B7{c:vT}{R:iT->ar->Prop}(h:codeAny M A c R s):dP J M A c R s:=λ Γ p e b aa=>h Γ p e b
theorem II{c:vT}{R:iT->ar->Prop}(h:dP false M A c R s):codeAny M A c R s:=λ Γ p e b=>h Γ p e b (λ e=>(nomatch e))
theorem eu{c:vT}{R R':iT->ar->Prop}(h:dP J M A c R s)(hR:∀r s,R r s->R' r s):dP J M A c R' s:=
 λ Γ p e b x=>wpCode_mono hR (h Γ p e b x)
theorem tree{c:vT}{R:iT->ar->Prop}
  (h:cL J M (A.under c) (M.den c) (λ fin s'=>match fin with | .done f=>R (.ok f) s' | .again c'=>c'.quiet=true/\Dd c'=true/\dP J M A c' R s') s):dP J M A c R s:=λ Γ p hc Oh x=>by
 rw[wpCode_iff_wp,hc]
 refine oG M Γ _ (λ fin p' s' h'=>?_) (λ aa aa aa h'=>h'.elim) p s (h Γ p (hc▸Oh.in) x)
 cases fin with
 |done f=>exact h'
 |again c'=>exact⟨h'.1,h'.2.2 (Γ.goto c') p' rfl (Oh.goto c') λ j=>⟨h'.2.1,(x j).2⟩⟩
theorem BinOp{l op r pos}{Q:ak->ar->Prop}
  (h:cL J M A (eval l env) (λ a s₁=>cL J M A (eval r env) (λ b bp=>cL J M A (kV op a b) Q bp) s₁) s):cL J M A (eval (.BinOp l op r pos) env) Q s:=by
 rw[eval_BinOp]
 exact cM (mono h λ a s₁ bH=>cM (holds (mono bH λ b bp cW=>at_ (Jc cW))))
theorem BG{l op r pos}{Q:ak->ar->Prop}(hm:pQ op r=false)
  (h:cL J M A (eval l env) (λ a s₁=>cL J M A (eval r env) (λ b bp=>cL J M A (dz op a b) Q bp) s₁) s):cL J M A (eval (.Compare l [op] [r] pos) env) Q s:=by
 rw[eval_Compare1,JL hm]
 exact cM (mono h λ a s₁ bH=>cM (holds (mono bH λ b bp cW=>at_ (Jc cW))))
theorem isTrue_Compare1{l op r pos whole}{Q:aC->ar->Prop}(hm:pQ op r=false)
  (h:cL J M A (eval l env) (λ a s₁=>cL J M A (eval r env) (λ b bp=>cL J M A (dz op a b) (λ c fY=>cL J M A (truthy c) Q fY) bp) s₁) s):
  cL J M A (isTrue (.Compare l [op] [r] pos) env whole) Q s:=by
 rw[PySem.isTrue_Compare1,JL hm]
 exact cM (mono h λ a s₁ bH=>cM (holds (mono bH λ b bp cW=>at_ (cM (Jc (mono cW λ c fY fK=>holds fK))))))
theorem An{e:aB}{whole:im ak}{Q:aC->ar->Prop}(he:isTrue e env whole=(do let v ← whole; dp e.pos; holding [v] (truthy v)))
  (h:cL J M A whole (λ v s₁=>cL J M A (truthy v) Q s₁) s):cL J M A (isTrue e env whole) Q s:=by
 rw[he]
 exact cM (mono h λ v s₁ bH=>at_ (holds bH))
theorem E7{x:aB}{pos:c9}{whole:im ak}{Q:aC->ar->Prop}(h:cL J M A (isTrue x env (eval x env)) (λ b s₁=>Q (!b) s₁) s):
  cL J M A (isTrue (.UnaryOp .Not x pos) env whole) Q s:=by
 rw[arm_isTrue_UnaryOp]
 exact cM (mono h λ b s₁ bH=>ret bH)
theorem Vl{op:UnaryOp}{x:aB}{pos:c9}{Q:ak->ar->Prop}(h:cL J M A (eval x env) (λ v s₁=>cL J M A (unaryOp op v) Q s₁) s):
  cL J M A (eval (.UnaryOp op x pos) env) Q s:=by
 rw[arm_eval_UnaryOp]
 exact cM (mono h λ v s₁ bH=>at_ (holds bH))
theorem IfExp{t a b:aB}{pos:c9}{Q:ak->ar->Prop}
  (h:cL J M A (isTrue t env (eval t env)) (λ c s₁=>aY c (cL J M A (eval a env) Q s₁) (cL J M A (eval b env) Q s₁)) s):cL J M A (eval (.IfExp t a b pos) env) Q s:=by
 rw[arm_eval_IfExp]
 exact cM (mono h λ c s₁ bH=>by cases c<;>exact bH)
theorem If{t pos}{a b:ae f5}{Q:mA->ar->Prop}
  (h:cL J M A (isTrue t env (eval t env)) (λ c s₁=>aY c (cL J M A (execs a env) Q s₁) (cL J M A (execs b env) Q s₁)) s):cL J M A (exec (.If t a b pos) env) Q s:=by
 rw[exec_If]
 exact at_ (cM (mono h λ c s₁ bH=>by cases c<;>exact bH))
theorem lu{pos:c9}{e:aB}{rest:ae aB}{Q:ae ak->ar->Prop}(he:fD (e::rest) env=(false,eval e env)::fD rest env)
  (h:cL J M A (eval e env) (λ v s₁=>cL J M A (spliced (backTo pos (fD rest env))) (λ vs bp=>Q (v::vs) bp) s₁) s):cL J M A (spliced (backTo pos (fD (e::rest) env))) Q s:=by
 rw[he]
 show cL J M A (do
  let v ← eval e env
  let here ← (pure [v]:im (ae ak))
  return here++(← holding here (spliced (backTo pos (fD rest env))))) Q s
 exact cM (mono h λ v s₁ bH=>cM (ret (cM (holds (mono bH λ vs bp cW=>ret cW)))))
theorem Mz{es:ae aB}{k:Nat}{pos:c9}{Q:ak->ar->Prop}
  (h:cL J M A (spliced (backTo pos (fD es env))) (λ vs s₁=>vs.length<=gA/\Q (.ref s₁.heap.objs.size) {s₁ with heap:=s₁.heap.push {cls:= .type "tuple",data:= .seq vs.toArray}}) s):
  cL J M A (eval (.Tuple es k pos) env) Q s:=by
 rw[arm_eval_Tuple]
 exact at_ (cM (mono h λ vs s₁ bH=>any (cP bH.2 (by show vs.toArray.size<=gA; rw[cT]; exact bH.1))))
theorem nList{es:ae aB}{pos:c9}{Q:ak->ar->Prop}
  (h:cL J M A (spliced (backTo pos (fD es env))) (λ vs s₁=>vs.length<=gA/\Q (.ref s₁.heap.objs.size) {s₁ with heap:=s₁.heap.push {cls:= .type "list",data:= .seq vs.toArray}}) s):
  cL J M A (eval (.List es pos) env) Q s:=by
 rw[arm_eval_List]
 exact at_ (cM (mono h λ vs s₁ bH=>any (cP bH.2 (by show vs.toArray.size<=gA; rw[cT]; exact bH.1))))
theorem uk{e pos}{Q:mA->ar->Prop}(h:cL J M A (eval e env) (λ v=>Q (.ret v)) s):cL J M A (exec (.Return (af e) pos) env) Q s:=by
 rw[exec_Return_some]
 exact at_ (cM (mono h λ v s₁ bH=>ret bH))
theorem BD{x pos' value pos}{Q:mA->ar->Prop}(hs:oH value (af (.Name x pos')) pos.line env=pure false)
  (h:cL J M A (eval value env) (λ v s₁=>cL J M A (ug env x v) (λ aa=>Q .next) s₁) s):cL J M A (exec (.Assign [.Name x pos'] value pos) env) Q s:=by
 rw[exec_Assign_Name env x pos' value pos hs]
 exact at_ (cM (mono h λ v s₁ bH=>at_ (cM (λ Γ p a c=>by rw[Sem.wp_bindName]; exact(mono bH λ aa bp cW=>ret cW) Γ p a c))))
theorem v8{x pos' op value pos}{Q:mA->ar->Prop}
  (h:cL J M A (loadName env x) (λ old s₁=>cL J M A (eval value env) (λ v bp=>cL J M A (mC op old v) (λ r fY=>cL J M A (ug env x r) (λ aa=>Q .next) fY) bp) s₁) s):
  cL J M A (exec (.AugAssign (.Name x pos') op value pos) env) Q s:=by
 rw[exec_AugAssign_Name]
 exact at_ (cM (mono h λ old s₁ bH=>cM (holds (mono bH λ v bp cW=>at_ (cM (Jc (mono cW λ r fY fK=>at_ (cM (λ Γ p a c=>by
  rw[Sem.wp_bindName]; exact(mono fK λ aa bp cW=>ret cW) Γ p a c)))))))))
theorem tC{o attr pos' value pos}{Q:mA->ar->Prop}(hs:oH value (af (.Attribute o attr pos')) pos.line env=pure false)
  (h:cL J M A (eval value env) (λ v s₁=>cL J M A (eval o env) (λ ov bp=>cL J M A (xV ov attr v) (λ aa=>Q .next) bp) s₁) s):
  cL J M A (exec (.Assign [.Attribute o attr pos'] value pos) env) Q s:=by
 rw[plainObj_exec_Assign_Attribute o attr pos' value pos hs]
 refine at_ (cM (mono h λ v s₁ bH=>?_))
 rw[assign_Attribute]
 exact cM (cM (holds (mono bH λ ov bp cW=>at_ (cM (holds (mono cW λ aa fY fK=>any (Il (ret fK))))))))
theorem qT{o value:aB}{attr:bI}{A2 pos:c9}{op:cH}{Q:mA->ar->Prop}
  (h:cL J M A (eval o env) (λ ov s₁=>cL J M A (getAttr ov attr true) (λ old bp=>cL J M A (eval value env) (λ v fY=>cL J M A (mC op old v) (λ new te=>
      cL J M A (xV ov attr new) (λ aa=>Q .next) te) fY) bp) s₁) s):cL J M A (exec (.AugAssign (.Attribute o attr A2) op value pos) env) Q s:=by
 have e:exec (.AugAssign (.Attribute o attr A2) op value pos) env=(do
   dp pos
   let ov ← eval o env
   let new ← holding [ov] do
    dp A2.atName
    let old ← getAttr ov attr true
    let v ← holding [old] (eval value env)
    dp pos
    D6 [old,v] (mC op old v)
   dp A2.atName
   holding [new,ov] (xV ov attr new)
   release [new,ov] []
   pure .next):=rfl
 rw[e]
 exact at_ (cM (mono h λ ov s₁ bH=>cM (holds (at_ (cM (mono bH λ old bp cW=>cM (holds (mono cW λ v fY fK=>at_ (Jc (mono fK λ new te nQ=>at_ (cM (holds (mono nQ λ aa Rr CJ=>drops (ret CJ))))))))))))))
end
end X
namespace X
section
variable{α β:Type}{J:aC}{M:iy}{A:bn}{s:ar}{env:Env}
theorem execs_cons{st rest}{Q:mA->ar->Prop}(h:cL J M A (exec st env) (λ f s'=>match f with | .next=>cL J M A (execs rest env) Q s'|f=>Q f s') s):
  cL J M A (execs (st::rest) env) Q s:=by
 rw[PySem.execs_cons]
 exact cM (mono h λ f s₁ bH=>by cases f<;>first|exact bH|exact ret bH)
theorem While{t b pos}{Q:mA->ar->Prop}(h:dP J M A (.whileLoop t b [] env) (λ r s'=>match r with | .ok f=>Q f s' | .error _=>False) s):
  cL J M A (exec (.While t b [] pos) env) Q s:=by
 rw[exec_While]
 exact at_ (raises (runs rfl h))
theorem For{t it b pos}{Q:mA->ar->Prop}(hs:∀x,eh it env x=pure x)
  (h:cL J M A (eval it env) (λ x s₁=>cL J M A (iB x) (λ i bp=>dP J M A (.forLoop t i b [] env) (λ r s'=>match r with | .ok f=>Q f s' | .error _=>False) bp) s₁) s):
  cL J M A (exec (.For t it b [] pos) env) Q s:=by
 rw[exec_For]
 exact at_ (cM (mono h λ x s₁ bH=>cM (XX (hs x) (at_ (cM (holds (mono bH λ i bp cW=>raises (runs rfl cW))))))))
theorem keeps{vs:ae ak}{m:im α}{Q:α->ar->Prop}(h:cL J M A m Q s):cL J M A (m.keep vs) Q s:=λ Γ p a c=>by rw[Sem.wp_keep]; exact h Γ p a c
theorem Uk{f:ak}{args:ae (aC×im ak)}{Q:Args->ar->Prop}(hp:args.any (·.1)=false)(h:cL J M A (spliced args) (λ vs s'=>Q ⟨vs,[]⟩ s') s):
  cL J M A (evalArgs f true args []) Q s:=by
 match args,hp with
 |[],_=>
  unfold evalArgs
  show cL J M A (spliced []>>=_) Q s
  refine cM (mono h λ vs s₁ bH=>cM (ret ?_))
  refine holds ?_
  exact cM (ret (cM (ret (ret bH))))
 |(false,x)::r,_=>
  unfold evalArgs
  show cL J M A (spliced ((false,x)::r)>>=_) Q s
  refine cM (mono h λ vs s₁ bH=>?_)
  refine holds ?_
  exact cM (ret (cM (ret (ret bH))))
theorem uo{pos:c9}{f:ak}{first:ae ak}{args:ae (aC×im ak)}{Q:ak->ar->Prop}{Pm:Heap->Prop}(hp:args.any (·.1)=false)
  (hk:∀h,Pm h->∃k,(k=Bb\/k=xL\/k=tt)/\Looks M h (keeperOf f) k)
  (h:cL J M A (spliced args) (λ vs s₁=>Pm s₁.heap/\cL J M A (call f (first++vs) []) Q s₁) s):cL J M A (callWith pos f first args []) Q s:=by
 unfold callWith
 refine cM (holds (Uk hp (mono h λ vs s₁ bH=>at_ ?_)))
 obtain⟨k,hk',L⟩:=hk _ bH.1
 have hp2:(args.any (·.1)||([]:ae (aq bI×im ak)).any (·.1.isNone))=false:=by rw[hp]; rfl
 rw[hp2]
 dsimp only
 refine cM (any (L.here ?_))
 have tail:∀{t:im ak},cL J M A t Q s₁->cL J M A (t>>=λ r=>holding [r] point>>=λ aa=>pure r) Q s₁:=
  λ ht=>cM (mono ht λ r bp hr=>cM (holds (any (Bh (ret hr)))))
 have marked (mk:ak):cL J M A (callMarked mk f (first++vs) []) Q s₁:=by unfold callMarked; exact keeps bH.2
 rcases hk' with rfl|rfl|rfl<;>dsimp only<;>first|exact tail bH.2|(split<;>first|exact tail bH.2|exact tail (marked _))
theorem p4{id:bI}{p pos:c9}{args:ae aB}{Q:ak->ar->Prop}
  (h:cL J M A (eval (.Name id p) env) (λ f s₁=>cL J M A (callWith pos f [] (backTo pos (fD args env)) []) Q s₁) s):cL J M A (eval (.Call (.Name id p) args [] pos) env) Q s:=by
 rw[arm_eval_Call_Name']
 exact cM (mono h λ aa aa z=>z)
theorem B4{o:aB}{name:bI}{apos pos:c9}{args:ae aB}{pl:im aC}{Q:ak->ar->Prop}
  (he:eval (.Call (.Attribute o name apos) args [] pos) env=(do
   let ov ← eval o env
   dp apos.atName
   let (f,first) ← holding [ov] (fJ ov name pl)
   callWith pos f first (backTo pos (fD args env)) []))
  (h:cL J M A (eval o env) (λ ov s₁=>cL J M A (fJ ov name pl) (λ fx bp=>cL J M A (callWith pos fx.1 fx.2 (backTo pos (fD args env)) []) Q bp) s₁) s):
  cL J M A (eval (.Call (.Attribute o name apos) args [] pos) env) Q s:=by
 rw[he]
 exact cM (mono h λ ov s₁ bH=>at_ (cM (holds (mono bH λ fx bp cW=>cW))))
theorem Attribute{o:aB}{attr:bI}{pos:c9}{Q:ak->ar->Prop}
  (he:eval (.Attribute o attr pos) env=(do
   let v ← eval o env
   dp pos.atName
   let r ← holding [v] (getAttr v attr true)
   iA o v r
   pure r))
  (h:cL J M A (eval o env) (λ v s₁=>cL J M A (getAttr v attr true) Q s₁) s) (hl:∀v r (Q:e6->ar->Prop) s,Q () s->aH M A (iA o v r) Q (λ aa aa=>False) s):cL J M A (eval (.Attribute o attr pos) env) Q s:=by
 rw[he]
 exact cM (mono h λ v s₁ bH=>at_ (cM (holds (mono bH λ r bp cW=>cM (any (hl v r _ _ (ret cW)))))))
theorem Subscript{o i:aB}{pos:c9}{Q:ak->ar->Prop}
  (h:cL J M A (eval o env) (λ v s₁=>cL J M A (eval i env) (λ j bp=>cL J M A (kU o i v j) Q bp) s₁) s):cL J M A (eval (.Subscript o i pos) env) Q s:=by
 rw[eval_Subscript]
 exact cM (mono h λ v s₁ bH=>cM (holds (mono bH λ j bp cW=>at_ cW)))
theorem tD{o i:aB}{pos':c9}{value:aB}{pos:c9}{Q:mA->ar->Prop}(hs:oH value (af (.Subscript o i pos')) pos.line env=pure false)
  (h:cL J M A (eval value env) (λ v s₁=>cL J M A (eval o env) (λ ov bp=>cL J M A (eval i env) (λ iv fY=>cL J M A (eV ov iv v) (λ aa=>Q .next) fY) bp) s₁) s):
  cL J M A (exec (.Assign [.Subscript o i pos'] value pos) env) Q s:=by
 rw[exec_Assign_Subscript o i pos' value pos hs]
 refine at_ (cM (mono h λ v s₁ bH=>?_))
 rw[assign_Subscript]
 exact cM (cM (holds (mono bH λ ov bp cW=>cM (holds (mono cW λ iv fY fK=>at_ (cM (holds (mono fK λ aa te nQ=>any (Il (ret nQ))))))))))
theorem qU{o i value:aB}{A2 pos:c9}{op:cH}{Q:mA->ar->Prop}
  (hi:∀ov iv new,augStore i ov iv new=(do holding [new,ov,iv] (eV ov iv new); release [new,ov,iv] []; pure .next))
  (h:cL J M A (eval o env) (λ ov s₁=>cL J M A (eval i env) (λ iv bp=>cL J M A (getItem ov iv) (λ old fY=>cL J M A (eval value env) (λ v te=>cL J M A (mC op old v) (λ new Rr=>
      cL J M A (eV ov iv new) (λ aa=>Q .next) Rr) te) fY) bp) s₁) s):cL J M A (exec (.AugAssign (.Subscript o i A2) op value pos) env) Q s:=by
 have e:exec (.AugAssign (.Subscript o i A2) op value pos) env=(do
   dp pos
   let ov ← eval o env
   let iv ← holding [ov] (eval i env)
   let new ← holding [ov,iv] do
    dp A2
    let old ← getItem ov iv
    let v ← holding [old] (eval value env)
    dp pos
    D6 [old,v] (mC op old v)
   dp A2
   augStore i ov iv new):=rfl
 rw[e]
 refine at_ (cM (mono h λ ov s₁ bH=>cM (holds (mono bH λ iv bp cW=>cM (holds (at_ (cM (mono cW λ old fY fK=>cM (holds (mono fK λ v te nQ=>at_ (Jc (mono nQ λ new Rr CJ=>at_ ?_))))))))))))
 rw[hi]
 exact cM (holds (mono CJ λ aa ag3 acx=>drops (ret acx)))
theorem xZ{targets:ae aB}{value:aB}{pos:c9}{Q:mA->ar->Prop}(hs:Ik targets value pos.line env=pure false)(hw:i_ targets value env=pure none)
  (h:cL J M A (eval value env) (λ v s₁=>cL J M A (assignAll v ((jI targets env).map (·.2))) (λ aa=>Q .next) s₁) s):cL J M A (exec (.Assign targets value pos) env) Q s:=by
 rw[exec_Assign_arm]
 refine at_ ?_
 rw[hs]
 refine cM (ret ?_)
 rw[bC (by decide)]
 refine cM (mono h λ v s₁ bH=>?_)
 rw[hw]
 exact cM (ret (cM (mono bH λ aa aa z=>ret z)))
theorem v7{targets:ae aB}{value:aB}{pos:c9}{names:ae bI}{Q:mA->ar->Prop}(hs:Ik targets value pos.line env=pure false)(hw:i_ targets value env=pure (af names))
  (h:cL J M A (eval value env) (λ v s₁=>cL J M A (unpackItems v names.length none) (λ items bp=>cL J M A (gG (names.reverse.map λ n=>m6 env n) items.reverse) (λ aa=>Q .next) bp) s₁) s):
  cL J M A (exec (.Assign targets value pos) env) Q s:=by
 rw[exec_Assign_arm]
 refine at_ ?_
 rw[hs]
 refine cM (ret ?_)
 rw[bC (by decide)]
 refine cM (mono h λ v s₁ bH=>?_)
 rw[hw]
 refine cM (ret ?_)
 show cL J M A (do rule "assign.swapped-stores"; let items ← unpackItems v names.length none; gG (names.reverse.map λ n=>m6 env n) items.reverse; pure .next) Q s₁
 exact cM (any (mE (cM (mono bH λ items bp cW=>cM (mono cW λ aa aa z=>ret z)))))
end
section
variable{J:aC}{prog:aK}{w:bw}{A:bn}{s:ar}{R:iT->ar->Prop}
theorem whileLoop{t b env}(I:Nat->ar->Prop)
  (turn:∀n s,I n s->cL J (aE prog w) A (isTrue t env (eval t env)) (λ c bp=>aY c (cL J (aE prog w) A (execs b env) (λ f fY=>match f with
      | .next | .cont=>∃m,m < n/\I m fY
      | .brk=>R (.ok .next) fY
      | .ret v=>R (.ok (.ret v)) fY) bp) (R (.ok .next) bp)) s)
  (n:Nat) (h:I n s):dP J (aE prog w) A (.whileLoop t b [] env) R s:=by
 induction n using xT generalizing s with
 |ind n ih=>
  refine tree ?_
  show cL J _ A ((whileTurn t b [] env).onRaise (λ x=>do qR x env; k9 x)) _ s
  refine raises ?_
  unfold whileTurn
  refine cM (mono (turn n s h) λ c bp cW=>?_)
  cases c with
  |false=>exact cM (any (wpAny_execs_nil (ret cW)))
  |true=>
   refine cM (mono cW λ f fY fK=>?_)
   cases f with
   |next=>obtain⟨m,hm,hI⟩:=fK; exact ret ⟨rfl,rfl,ih m hm hI⟩
   |cont=>obtain⟨m,hm,hI⟩:=fK; exact ret ⟨rfl,rfl,ih m hm hI⟩
   |brk=>exact ret fK
   |ret v=>exact ret fK
theorem forLoop{t it b env}(I:Nat->ar->Prop)
  (turn:∀n s,I n s->cL J (aE prog w) A (gN it) (λ r s₁=>match r with
   |none=>R (.ok .next) s₁
   |some v=>cL J (aE prog w) A (dy t it v) (λ aa NI=>cL J (aE prog w) A (assign t env v) (λ aa bp=>cL J (aE prog w) A (execs b env) (λ f fY=>match f with
      | .next | .cont=>∃m,m < n/\I m fY
      | .brk=>R (.ok .next) fY
      | .ret v=>R (.ok (.ret v)) fY) bp) NI) s₁) s)
  (n:Nat) (h:I n s):dP J (aE prog w) A (.forLoop t it b [] env) R s:=by
 induction n using xT generalizing s with
 |ind n ih=>
  refine tree ?_
  show cL J _ A ((forTurn t it b [] env).onRaise (λ x=>do qR x env; k9 x)) _ s
  refine raises ?_
  unfold forTurn
  refine at_ (cM (raises (mono (turn n s h) λ r bp cW=>?_)))
  cases r with
  |none=>exact ret ⟨rfl,rfl,B7 (codeAny_block (wpAny_execs_nil cW))⟩
  |some v=>
   refine cM (mono cW λ aa fY fK=>cM (mono fK λ aa te nQ=>cM (mono nQ λ f Rr CJ=>?_)))
   cases f with
   |next=>obtain⟨m,hm,hI⟩:=CJ; exact ret ⟨rfl,rfl,ih m hm hI⟩
   |cont=>obtain⟨m,hm,hI⟩:=CJ; exact ret ⟨rfl,rfl,ih m hm hI⟩
   |brk=>exact ret CJ
   |ret v=>exact ret CJ
theorem func{body env}
  (h:cL J (aE prog w) (A.deeper env) (execs body env) (λ f s'=>R (.ok (.ret (match f with | .ret v=>v|_=> .none))) s') s):dP J (aE prog w) A (.func body env) R s:=by
 refine tree ?_
 show cL J _ (A.deeper env) (do point; match ← (execs body env).onRaise (leaving env) with | .ret v=>PySem.ret v|_=>PySem.ret .none) _ s
 exact cM (any (Bh (cM (raises (mono h λ f s' h'=>by cases f<;>exact ret h')))))
theorem KQ{a:au}{o:Obj}{fd:dR}{body:ae f5}{vals:ae ak}{binds:ae (bI×ak)}
  (uD:A.depth < tz) (ho:s.heap.get? a=af o) (LH:o.data= .func fd) (LN:s.heap.NoLimit) (Ym:s.heap.CodeRec fd.code fd.qualname)
  (CF:fd.body= .stmts body) (CD:mV s fd ⟨vals,[]⟩ binds) (UL:fd.closure=[])
  (y2:∀x∈binds,fd.scope.names.lookup x.1=af .local\/(fd.scope.names.lookup x.1=af .cell/\((cellsFrom (s.heap.objs.size+1) fd.scope.names []).lookup x.1).isSome=true))
  (Of:fd.scope.isCoroutine=false) (LL:fd.scope.isGenerator=false) (hk:fd.scope.kind= .function)
  (h:∀s₁,InCallC s (eE fd s.heap.objs.size a).locals (bindL (eE fd s.heap.objs.size a).kindOf binds λ aa=>none) (eE fd s.heap.objs.size a).cells
    (bindC (eE fd s.heap.objs.size a).kindOf binds λ aa=>none) s₁->
   cL J (aE prog w) (A.deeper (eE fd s.heap.objs.size a)) (execs body (eE fd s.heap.objs.size a)) (λ f s'=>R (.ok (.ret (match f with | .ret v=>v|_=> .none))) s') s₁):
  dP J (aE prog w) A (.call (.ref a) ⟨vals,[]⟩) R s:=by
 refine tree ?_
 show cL J _ A.in1 (D5 (.ref a) ⟨vals,[]⟩) _ s
 unfold D5
 dsimp only
 refine cM (any (iU ho ?_))
 obtain⟨c,oc,vs,tq,hc,Yv,hdc,hq⟩:=Ym
 rw[LH]
 dsimp only
 unfold callFunction
 dsimp only
 rw[Of,LL,hc,UL,CF]
 dsimp only
 refine cM (m:=field (.ref c) 1) (any (wpAny_field Yv hdc hq (cM (ret ?_))))
 refine cM (any (CD _ _ _ _ (cM (any ?_))))
 refine Ek hk y2 λ env he s' x=>?_
 have nl:s'.heap.NoLimit:=LN.keeps x.toInCall.keep
 subst he
 refine cM (any (wpAny_enterFrame nl uD (ret ⟨rfl,rfl,func ?_⟩)))
 have hx:=h s' (by unfold eE; exact x)
 unfold eE at hx
 rw[hc] at hx
 exact hx
end
end X
set_option genCtorIdx true
inductive AV where
 |undef|none|bool (b:aC)|int (i:Int)|j9 (bs:ae b7)|own (i:Nat)|val (v:ak)|fn (a:au)
 |lq (xs:ae Int)|m9 (xG:ae (ae Int))
 |tup (xs:ae AV)|lst (xs:ae AV)|row (ns:ae Int)|inst (C:au) (ks:ae Nat) (vs:ae AV)
 |any|j_ (a b c:Int)|iO (ks:ae Int) (vs:ae AV)|bG (ks:ae (ae Int)) (vs:ae AV)
set_option genCtorIdx false
theorem AV.lst.inj{x y:ae AV}(h:AV.lst x= .lst y):x=y:=by cases h; rfl
theorem AV.int.inj{x y:Int}(h:AV.int x= .int y):x=y:=by cases h; rfl
theorem AV.own.inj{x y:Nat}(h:AV.own x= .own y):x=y:=by cases h; rfl
inductive AO where
 |lst (xs:ae AV)|il (ns:ae Int)|inst (C:au) (j:Nat)|ns (ks:ae Nat) (vs:ae AV)
 |iO (ks:ae Int) (vs:ae AV)|bG (ks:ae (ae Int)) (vs:ae AV)|ba (bs:ae b7)|tab
structure St where
 loc:ae AV
 mem:ae AO
noncomputable abbrev BM:=au->aq Obj
def dG(G G':BM):Prop:=∀a o,G a=af o->G' a=af o
theorem dG.refl(G:BM):dG G G:=λ aa aa e=>e
theorem dG.trans{a b c:BM}(x:dG a b)(y:dG b c):dG a c:=λ p o e=>y p o (x p o e)
noncomputable def fieldNames:ae bI:=(["states","senses","slots","bounds","low","bins","contexts","ahead","splits","n","first","end","signs","size","code","left","found","parts","encoder",
 "ident","across","down","quant","kind","precision","height","width","components","many","planes","places","dc_slots","ac_slots","start","high",
 "put","widen","octet_out","clear_end","finish","step","get","is_alone","blocks","plane_size","most_across","most_down","mcus_across","mcus_down","padded"]:ae cQ).map bT
def nm(i:Nat):bI:=fieldNames.getD i (bT "?")
noncomputable def NM:Nat:=50
def Y9:aC:=(eB NM).all λ i=>(eB NM).all λ j=>(nm i==nm j)==(i==j)
theorem Y_:Y9=true:=by decide+kernel
theorem Fp{i j:Nat}(hi:i < NM)(hj:j < NM):(nm i==nm j)=(i==j):=by
 have h:=Y_
 unfold Y9 at h
 rw[aZ] at h
 have:=h i (q_.mpr hi)
 rw[aZ] at this
 exact a_.mp (this j (q_.mpr hj))
noncomputable def Xq{α β:Type}(f:α->β)(d:β)(l:ae α):Nat->β:=k6 (motive:=λ aa=>Nat->β) (λ aa=>d) (λ v aa k i=>Ea (motive:=λ aa=>β) (f v) (λ j aa=>k j) i) l
noncomputable def Nq{α:Type}(v:α)(l:ae α):Nat->ae α:=k6 (motive:=λ aa=>Nat->ae α) (λ aa=>[]) (λ u r k i=>Ea (motive:=λ aa=>ae α) (v::r) (λ j aa=>u::k j) i) l
noncomputable def Ff{κ α:Type}(e:κ->κ->aC):ae κ->ae α->κ->aq α
 |k::ks,v::vs,x=>aY (e k x) (af v) (Ff e ks vs x)
 |_,_,_=> .none
noncomputable def jZ{κ α:Type}(e:κ->κ->aC):ae κ->ae α->κ->α->ae α
 |k::ks,v::vs,x,u=>aY (e k x) (u::vs) (v::jZ e ks vs x u)
 |_,_,_,u=>[u]
noncomputable def ny{κ:Type}(e:κ->κ->aC):ae κ->κ->ae κ
 |k::ks,x=>aY (e k x) (k::ks) (k::ny e ks x)
 |[],x=>[x]
abbrev lk:ae Nat->ae AV->Nat->aq AV:=Ff aT
abbrev Jl:ae Nat->ae AV->Nat->AV->ae AV:=jZ aT
abbrev putK:ae Nat->Nat->ae Nat:=ny aT
section
variable{κ α:Type}{e:κ->κ->aC}{k x:κ}{ks:ae κ}{v u:α}{vs:ae α}
theorem qH(h:e k x=true):ny e (k::ks) x=k::ks:=by show aY _ _ _=_; rw[h]; rfl
theorem mP(h:e k x=false):ny e (k::ks) x=k::ny e ks x:=by show aY _ _ _=_; rw[h]; rfl
theorem oA(h:e k x=true):jZ e (k::ks) (v::vs) x u=u::vs:=by show aY _ _ _=_; rw[h]; rfl
theorem lx(h:e k x=false):jZ e (k::ks) (v::vs) x u=v::jZ e ks vs x u:=by show aY _ _ _=_; rw[h]; rfl
theorem vC(h:e k x=true):Ff e (k::ks) (v::vs) x=af v:=by show aY _ _ _=_; rw[h]; rfl
theorem sR(h:e k x=false):Ff e (k::ks) (v::vs) x=Ff e ks vs x:=by show aY _ _ _=_; rw[h]; rfl
end
theorem condB{α:Type}{b:aC}{x y:aq α}{r:α}{Q:Prop}(h:aY b x y=af r)(k1:b=true->x=af r->Q)(k2:b=false->y=af r->Q):Q:=by
 rcases b
 ·exact k2 rfl h
 ·exact k1 rfl h
theorem zl{κ:Type}{e:κ->κ->aC}{x:κ}:∀ks:ae κ,(ny e ks x).length<=ks.length+1
 |[]=>cF _
 |k::ks=>by
  show(aY (e k x) (k::ks) (k::ny e ks x)).length<=_
  cases e k x
  ·exact eI (zl ks)
  ·exact xK _
noncomputable def wL:ae Nat->Nat->aC
 |k::ks,x=>aY (aT k x) true (wL ks x)
 |_,_=>false
noncomputable def pG(o:Obj)(vs:bD ak):Prop:=o.cls= .type "tuple"/\∃n,o.data= .seq vs n
noncomputable def i3(o:Obj)(vs:bD ak):Prop:=∃n,o=(⟨.type "list", .none, .seq vs n,#[]⟩:Obj)
theorem i3.is{o:Obj}{vs:bD ak}(h:i3 o vs):o.cls= .type "list"/\∃n,o.data= .seq vs n:=let ⟨n,e⟩:=h; by subst e; exact⟨rfl,n,rfl⟩
theorem i3.plain{h:Heap}{l:au}{o:Obj}{vs:bD ak}(ho:h.get? l=af o)(x:i3 o vs):h.PlainList l vs:=let ⟨n,e⟩:=x; ⟨n,by rw[ho,e]⟩
theorem i3.of{h:Heap}{l:au}{vs:bD ak}(x:h.PlainList l vs):∃o,h.get? l=af o/\i3 o vs:=let ⟨n,e⟩:=x; ⟨_,e,n,rfl⟩
noncomputable def cx:ae Int->ae ak->Prop
 |[],vs=>vs=[]
 |i::is,vs=>∃t r,vs= .int i t::r/\cx is r
noncomputable def uj:ae Nat->ae bf->ae ak->Prop
 |[],es,us=>es=[]/\us=[]
 |k::ks,es,us=>∃h t u Bn rB,es=⟨h, .str (nm k) t,u⟩::Bn/\us=u::rB/\k < NM/\uj ks Bn rB
noncomputable def FP(ks:ae Int):Int:=reduceHash (Builtin.Tuple.tupleHashOf (ks.map hashInt))
noncomputable def x3:ae Int->ae bf->ae ak->Prop
 |[],es,us=>es=[]/\us=[]
 |k::ks,es,us=>∃t u Bn rB,es=⟨hashInt k, .int k t,u⟩::Bn/\us=u::rB/\x3 ks Bn rB
noncomputable def pE(G:BM):ae (ae Int)->ae bf->ae ak->Prop
 |[],es,us=>es=[]/\us=[]
 |k::ks,es,us=>∃a o vs u Bn rB,es=⟨FP k, .ref a,u⟩::Bn/\us=u::rB/\(G a=af o/\pG o vs)/\cx k vs.toList/\pE G ks Bn rB
mutual
noncomputable def VR(G:BM)(ρ:ae au):AV->ak->Prop
 | .undef,_=>False
 | .none,v=>v= .none
 | .bool b,v=>v= .bool b
 | .int i,v=>∃t,v= .int i t
 | .j9 bs,v=>∃t,v= .bytes bs.toArray t
 | .own i,v=>∃a,ρ[i]?=af a/\v= .ref a
 | .val u,v=>v=u/\xU u=true
 | .fn a,v=>v= .ref a/\∃o fd,G a=af o/\o.data= .func fd
 | .lq xs,v=>∃a o vs,v= .ref a/\G a=af o/\pG o vs/\cx xs vs.toList
 | .m9 xG,v=>∃a o vs,v= .ref a/\G a=af o/\pG o vs/\vs.size=xG.length/\
   ∀(i:Nat) (xs:ae Int),xG[i]?=af xs->∃(b:au) (o:Obj) (us:bD ak),vs[i]?=af (du b)/\G b=af o/\pG o us/\cx xs us.toList
 | .tup xs,v=>∃a o vs,v= .ref a/\G a=af o/\pG o vs/\bJ G ρ xs vs.toList
 | .lst xs,v=>∃a o vs,v= .ref a/\G a=af o/\i3 o vs/\bJ G ρ xs vs.toList
 | .row ns,v=>∃a o vs,v= .ref a/\G a=af o/\i3 o vs/\cx ns vs.toList
 | .inst C ks us,v=>∃a d es n vs,v= .ref a/\G a=af (gE C d)/\G d=af (nH es n)/\uj ks es vs/\bJ G ρ us vs
 | .any,v=>xU v=true
 | .j_ x y z,v=>∃a t u w,v= .ref a/\G a=af (⟨.type "range", .none, .fields #[.int x t, .int y u, .int z w],#[]⟩:Obj)
 | .iO ks us,v=>∃a o es n vs,v= .ref a/\G a=af o/\o.ExactDict/\o.data= .dict es n/\x3 ks es.toList vs/\bJ G ρ us vs/\ks.Nodup/\a≠di
 | .bG ks us,v=>∃a o es n vs,v= .ref a/\G a=af o/\o.ExactDict/\o.data= .dict es n/\pE G ks es.toList vs/\bJ G ρ us vs/\ks.Nodup/\a≠di
noncomputable def bJ(G:BM)(ρ:ae au):ae AV->ae ak->Prop
 |[],vs=>vs=[]
 |a::as,vs=>∃v r,vs=v::r/\VR G ρ a v/\bJ G ρ as r
end
noncomputable def Ar:c9:=⟨487,52,487,114⟩
noncomputable def nk:bI:=bT "scan_conditioning"++".<locals>."++"<lambda>"
def Iv(G:BM)(o:Obj):Prop:=∃ps,o=tw ps/\TriplesOk ps.toList/\(codeAmong Ar ps.toList=none\/∃c oc vs t,codeAmong Ar ps.toList=af (.ref c)/\G c=af oc/\oc.data= .fields vs/\vs[1]?=af (.str nk t))
theorem Iv.up{G G':BM}(g:dG G G'){o:Obj}:Iv G o->Iv G' o:=
 .imp λ aa=> .imp_right<| .imp_right<| .imp_right<| .imp λ aa=> .imp λ aa=> .imp λ aa=> .imp λ aa=> .imp_right<| .imp_left<|g _ _
def OR(G:BM)(ρ:ae au):AO->Obj->Prop
 | .lst xs,o=>∃vs,i3 o vs/\bJ G ρ xs vs.toList
 | .il ns,o=>∃vs,i3 o vs/\cx ns vs.toList
 | .inst C j,o=>∃d,ρ[j]?=af d/\o=gE C d
 | .ns ks vs,o=>∃es n us,o=nH es n/\uj ks es us/\bJ G ρ vs us
 | .iO ks vs,o=>o.ExactDict/\∃es n us,o.data= .dict es n/\x3 ks es.toList us/\bJ G ρ vs us/\ks.Nodup
 | .bG ks vs,o=>o.ExactDict/\∃es n us,o.data= .dict es n/\pE G ks es.toList us/\bJ G ρ vs us/\ks.Nodup
 | .ba bs,o=>o=(⟨.type "bytearray", .none, .bytearray bs.toArray 0,#[]⟩:Obj)
 | .tab,o=>Iv G o
noncomputable def Ext(ρ ρ':ae au):Prop:=∃τ,ρ'=ρ++τ
theorem Ext.refl(ρ:ae au):Ext ρ ρ:=⟨[],(bS ρ).symm⟩
theorem Ext.trans{a b c:ae au}(x:Ext a b)(y:Ext b c):Ext a c:=by
 obtain⟨s,rfl⟩:=x; obtain⟨t,rfl⟩:=y; exact⟨s++t,gT ..⟩
theorem Ext.snoc(ρ:ae au)(a:au):Ext ρ (ρ++[a]):=⟨[a],rfl⟩
theorem Ext.get{ρ ρ':ae au}(x:Ext ρ ρ'){i:Nat}{a:au}(h:ρ[i]?=af a):ρ'[i]?=af a:=by
 obtain⟨τ,rfl⟩:=x
 rw[dD (jo.mp h).1]; exact h
theorem Ext.mem{ρ ρ':ae au}(x:Ext ρ ρ'){a:au}(h:a∈ρ):a∈ρ':=by
 obtain⟨τ,rfl⟩:=x; exact dA _ h
section
variable{G G':BM}{ρ ρ':ae au}
theorem pE.up(g:dG G G'):∀{ks:ae (ae Int)} {es:ae bf} {us:ae ak},pE G ks es us->pE G' ks es us
 |[]=>id
 |_::_=> .imp λ aa=> .imp λ aa=> .imp λ aa=> .imp λ aa=> .imp λ aa=> .imp λ aa=> .imp_right<| .imp_right<| .imp (.imp_left (g _ _))<| .imp_right<|pE.up g
theorem NY(g:dG G G'){v:ak}{R R':Obj->bD ak->Prop}(k:∀o vs,R o vs->R' o vs):(∃a o vs,v= .ref a/\G a=af o/\R o vs)->∃a o vs,v= .ref a/\G' a=af o/\R' o vs:=
 .imp λ aa=> .imp λ aa=> .imp λ aa=> .imp_right<| .imp (g _ _) (k _ _)
theorem Tl(g:dG G G'){v:ak}{R R':au->Obj->bD bf->Nat->ae ak->Prop}(k:∀a o es n vs,R a o es n vs->R' a o es n vs):(∃a o es n vs,v= .ref a/\G a=af o/\R a o es n vs)->∃a o es n vs,v= .ref a/\G' a=af o/\R' a o es n vs:=
 .imp λ aa=> .imp λ aa=> .imp λ aa=> .imp λ aa=> .imp λ aa=> .imp_right<| .imp (g _ _) (k _ _ _ _ _)
theorem aai(x:Ext ρ ρ'){i:Nat}{v:ak}:(∃a,ρ[i]?=af a/\v= .ref a)->∃a,ρ'[i]?=af a/\v= .ref a:= .imp λ aa=> .imp_left x.get
theorem aah(g:dG G G'){a:au}{p:Prop}:(p/\∃o fd,G a=af o/\o.data= .func fd)->p/\∃o fd,G' a=af o/\o.data= .func fd:= .imp_right<| .imp λ aa=> .imp λ aa=> .imp_left<|g _ _
theorem adM(g:dG G G'){xG:ae (ae Int)}{vs:bD ak}{p:Prop}:(p/\∀(i:Nat) (xs:ae Int),xG[i]?=af xs->∃(b:au) (o:Obj) (us:bD ak),vs[i]?=af (du b)/\G b=af o/\pG o us/\cx xs us.toList)->
 p/\∀(i:Nat) (xs:ae Int),xG[i]?=af xs->∃(b:au) (o:Obj) (us:bD ak),vs[i]?=af (du b)/\G' b=af o/\pG o us/\cx xs us.toList:=
 .imp_right λ h i xs e=>(h i xs e).imp λ aa=> .imp λ aa=> .imp λ aa=> .imp_right<| .imp_left<|g _ _
theorem A4(g:dG G G'){C:au}{ks:ae Nat}{v:ak}{R R':ae ak->Prop}(k:∀vs,R vs->R' vs):(∃a d es n vs,v= .ref a/\G a=af (gE C d)/\G d=af (nH es n)/\uj ks es vs/\R vs)->∃a d es n vs,v= .ref a/\G' a=af (gE C d)/\G' d=af (nH es n)/\uj ks es vs/\R' vs:=
 .imp λ aa=> .imp λ aa=> .imp λ aa=> .imp λ aa=> .imp λ aa=> .imp_right<| .imp (g _ _)<| .imp (g _ _)<| .imp_right (k _)
theorem Tn(g:dG G G'){x y z:Int}{v:ak}:(∃a t u w,v= .ref a/\G a=af (⟨.type "range", .none, .fields #[.int x t, .int y u, .int z w],#[]⟩:Obj))->∃a t u w,v= .ref a/\G' a=af (⟨.type "range", .none, .fields #[.int x t, .int y u, .int z w],#[]⟩:Obj):=
 .imp λ aa=> .imp λ aa=> .imp λ aa=> .imp λ aa=> .imp_right (g _ _)
mutual
theorem VR.up(g:dG G G')(x:Ext ρ ρ'):∀(a:AV) {v:ak},VR G ρ a v->VR G' ρ' a v
 | .undef=>λ h=>h
 | .none=>λ h=>h
 | .bool _=>λ h=>h
 | .int _=>λ h=>h
 | .j9 _=>λ h=>h
 | .own _=>λ h=>aai x h
 | .val _=>λ h=>h
 | .fn _=>λ h=>aah g h
 | .lq _=>λ h=>NY g (λ aa aa r=>r) h
 | .m9 _=>λ h=>NY g (λ aa aa=> .imp_right (adM g)) h
 | .tup xs=>λ h=>NY g (λ aa aa=> .imp_right (bJ.up g x xs)) h
 | .lst xs=>λ h=>NY g (λ aa aa=> .imp_right (bJ.up g x xs)) h
 | .row _=>λ h=>NY g (λ aa aa r=>r) h
 | .inst _ _ us=>λ h=>A4 g (λ aa=>bJ.up g x us) h
 | .any=>λ h=>h
 | .j_ _ _ _=>λ h=>Tn g h
 | .iO _ us=>λ h=>Tl g (λ aa aa aa aa aa=> .imp_right<| .imp_right<| .imp_right<| .imp_left (bJ.up g x us)) h
 | .bG _ us=>λ h=>Tl g (λ aa aa aa aa aa=> .imp_right<| .imp_right<| .imp (pE.up g)<| .imp_left (bJ.up g x us)) h
theorem bJ.up(g:dG G G')(x:Ext ρ ρ'):∀(as:ae AV) {vs:ae ak},bJ G ρ as vs->bJ G' ρ' as vs
 |[]=>λ h=>h
 |a::as=>λ h=>h.imp λ aa=> .imp λ aa=> .imp_right<| .imp (VR.up g x a) (bJ.up g x as)
end
theorem OR.up(g:dG G G')(x:Ext ρ ρ'){a:AO}{o:Obj}(h:OR G ρ a o):OR G' ρ' a o:=by
 rcases a with xs|_|_|_|_|_|_|_
 ·exact cR (λ aa=> .imp_right (bJ.up g x _)) h
 ·exact h
 ·exact cR (λ aa=> .imp_left x.get) h
 ·exact cR (λ aa=> .imp λ aa=> .imp λ aa=> .imp_right<| .imp_right<|bJ.up g x _) h
 ·exact iQ (.imp λ aa=> .imp λ aa=> .imp λ aa=> .imp_right<| .imp_right<| .imp_left<|bJ.up g x _) h
 ·exact iQ (.imp λ aa=> .imp λ aa=> .imp λ aa=> .imp_right<| .imp (pE.up g)<| .imp_left<|bJ.up g x _) h
 ·exact h
 ·exact Iv.up g h
theorem bJ.u0{vs:ae ak}{Q:ae ak->Prop}(h:bJ G ρ [] vs)(k:Q []):Q vs:=(show vs=[] from h)▸k
theorem bJ.uc{a:AV}{as:ae AV}{vs:ae ak}{Q:ae ak->Prop}(h:bJ G ρ (a::as) vs)(k:∀v r,VR G ρ a v->bJ G ρ as r->Q (v::r)):Q vs:=
 aD h λ v h=>h.elim λ r h=>h.1▸k v r h.2.1 h.2.2
theorem bJ.nil:bJ G ρ [] []:=rfl
theorem bJ.cons{a:AV}{v:ak}{as:ae AV}{vs:ae ak}(h:VR G ρ a v)(k:bJ G ρ as vs):bJ G ρ (a::as) (v::vs):=⟨v,vs,rfl,h,k⟩
theorem bJ.length:∀{as:ae AV} {vs:ae ak},bJ G ρ as vs->vs.length=as.length
 |[]=>λ h=>h.u0 (Q:=λ vs=>vs.length=0) rfl
 |_::as=>λ h=>h.uc (Q:=λ vs=>vs.length=as.length+1) λ aa aa aa h=>ah (·+1) (bJ.length h)
theorem cm{α:Type}{y:α}{Q:Prop}(h:(none:aq α)=af y):Q:=by cases h
theorem bJ.Ly{a:AV}:∀{as:ae AV} {i:Nat} {vs:ae ak},bJ G ρ as vs->as[i]?=af a->∃v,vs[i]?=af v/\VR G ρ a v
 |[],_=>λ aa e=>cm e
 |_::_,0=>λ h e=>h.uc (Q:=λ vs=>∃v,vs[0]?=af v/\VR G ρ a v) λ v aa h1 aa=>⟨v,rfl,am e▸h1⟩
 |_::_,i+1=>λ h e=>h.uc (Q:=λ vs=>∃v,vs[i+1]?=af v/\VR G ρ a v) λ aa aa aa h2=>bJ.Ly (i:=i) h2 e
theorem bJ.get{as:ae AV}{vs:ae ak}(h:bJ G ρ as vs){i:Nat}{a:AV}(e:as[i]?=af a):∃v,vs[i]?=af v/\VR G ρ a v:=h.Ly e
theorem bJ.AP{a:AV}{v:ak}(e:VR G ρ a v):∀{as:ae AV} {i:Nat} {vs:ae ak},bJ G ρ as vs->bJ G ρ (as.set i a) (vs.set i v)
 |[],_=>λ h=>h.u0 (Q:=λ vs=>bJ G ρ [] (vs.set _ v)) rfl
 |_::as,0=>λ h=>h.uc (Q:=λ vs=>bJ G ρ (a::as) (vs.set 0 v)) λ aa aa aa h2=>bJ.cons e h2
 |b::as,i+1=>λ h=>h.uc (Q:=λ vs=>bJ G ρ (b::as.set i a) (vs.set (i+1) v)) λ aa aa h1 h2=>bJ.cons h1 (bJ.AP e h2)
theorem bJ.set{as:ae AV}{vs:ae ak}(h:bJ G ρ as vs){i:Nat}{a:AV}{v:ak}(e:VR G ρ a v):bJ G ρ (as.set i a) (vs.set i v):=h.AP e
theorem bJ.append{bs:ae AV}{us:ae ak}:∀{as:ae AV} {vs:ae ak},bJ G ρ as vs->bJ G ρ bs us->bJ G ρ (as++bs) (vs++us)
 |[]=>λ h k=>h.u0 (Q:=λ vs=>bJ G ρ bs (vs++us)) k
 |b::as=>λ h k=>h.uc (Q:=λ vs=>bJ G ρ (b::(as++bs)) (vs++us)) λ aa aa h1 h2=>bJ.cons h1 (bJ.append h2 k)
end
theorem cx.u0{vs:ae ak}{Q:ae ak->Prop}(h:cx [] vs)(k:Q []):Q vs:=(show vs=[] from h)▸k
theorem cx.uc{a:Int}{as:ae Int}{vs:ae ak}{Q:ae ak->Prop}(h:cx (a::as) vs)(k:∀t r,cx as r->Q (.int a t::r)):Q vs:=
 aD h λ t h=>h.elim λ r h=>h.1▸k t r h.2
theorem cx.cons{a:Int}{t:kx}{as:ae Int}{vs:ae ak}(k:cx as vs):cx (a::as) (.int a t::vs):=⟨t,vs,rfl,k⟩
theorem cx.length:∀{as:ae Int} {vs:ae ak},cx as vs->vs.length=as.length
 |[]=>λ h=>h.u0 (Q:=λ vs=>vs.length=0) rfl
 |_::as=>λ h=>h.uc (Q:=λ vs=>vs.length=as.length+1) λ aa aa h=>ah (·+1) h.length
theorem cx.Ly{a:Int}:∀{as:ae Int} {i:Nat} {vs:ae ak},cx as vs->as[i]?=af a->∃t,vs[i]?=af (.int a t)
 |[],_=>λ aa e=>cm e
 |_::_,0=>λ h e=>h.uc (Q:=λ vs=>∃t,vs[0]?=af (.int a t)) λ t aa aa=>⟨t,am e▸rfl⟩
 |_::_,i+1=>λ h e=>h.uc (Q:=λ vs=>∃t,vs[i+1]?=af (.int a t)) λ aa aa h2=>h2.Ly (i:=i) e
theorem cx.get{as:ae Int}{vs:ae ak}(h:cx as vs){i:Nat}{a:Int}(e:as[i]?=af a):∃t,vs[i]?=af (.int a t):=h.Ly e
theorem cx.AP{a:Int}{t:kx}:∀{as:ae Int} {i:Nat} {vs:ae ak},cx as vs->cx (as.set i a) (vs.set i (.int a t))
 |[],_=>λ h=>h.u0 (Q:=λ vs=>cx [] (vs.set _ (.int a t))) rfl
 |_::as,0=>λ h=>h.uc (Q:=λ vs=>cx (a::as) (vs.set 0 (.int a t))) λ aa aa h2=>h2.cons
 |b::as,i+1=>λ h=>h.uc (Q:=λ vs=>cx (b::as.set i a) (vs.set (i+1) (.int a t))) λ aa aa h2=>h2.AP.cons
theorem cx.set{as:ae Int}{vs:ae ak}(h:cx as vs){i:Nat}{a:Int}{t:kx}:cx (as.set i a) (vs.set i (.int a t)):=h.AP
section
variable{G:BM}{ρ:ae au}{v:ak}{Q:ak->Prop}
theorem VR.MJ{i:Int}(h:VR G ρ (.int i) v):∃t,v= .int i t:=h
theorem VR.of_none(h:VR G ρ .none v):v= .none:=h
theorem VR.MK{i:Nat}(h:VR G ρ (.own i) v):∃a,ρ[i]?=af a/\v= .ref a:=h
theorem VR.mH{i:Int}{t:kx}:VR G ρ (.int i) (.int i t):=i8 t rfl
theorem VR.KO{b:aC}:VR G ρ (.bool b) (.bool b):=Eq.refl _
theorem VR.none_:VR G ρ .none .none:=Eq.refl _
theorem VR.Sj{bs:ae b7}{t:kx}:VR G ρ (.j9 bs) (.bytes bs.toArray t):=i8 t rfl
theorem VR.Jf{i:Nat}{a:au}(h:ρ[i]?=af a):VR G ρ (.own i) (.ref a):=i8 a ⟨h,rfl⟩
theorem VR.aad{xs:ae AV}{a:au}{o:Obj}{vs:bD ak}(h:G a=af o)(k:pG o vs)(r:bJ G ρ xs vs.toList):VR G ρ (.tup xs) (.ref a):=i8 a ⟨o,vs,rfl,h,k,r⟩
theorem VR.YX{xs:ae AV}{a:au}{o:Obj}{vs:bD ak}(h:G a=af o)(k:i3 o vs)(r:bJ G ρ xs vs.toList):VR G ρ (.lst xs) (.ref a):=i8 a ⟨o,vs,rfl,h,k,r⟩
theorem VR.Q2{xs:ae Int}{a:au}{o:Obj}{vs:bD ak}(h:G a=af o)(k:i3 o vs)(r:cx xs vs.toList):VR G ρ (.row xs) (.ref a):=i8 a ⟨o,vs,rfl,h,k,r⟩
theorem VR.Si{b:aC}(h:VR G ρ (.bool b) v)(k:Q (.bool b)):Q v:=(show v=_ from h)▸k
theorem VR.iu{i:Int}(h:VR G ρ (.int i) v)(k:∀t,Q (.int i t)):Q v:=aD h λ t e=>(show v=_ from e)▸k t
theorem VR.QJ{i:Nat}(h:VR G ρ (.own i) v)(k:∀a,ρ[i]?=af a->Q (.ref a)):Q v:=aD h λ a e=>e.2▸k a e.1
theorem M0{R:au->Obj->bD ak->Prop}(h:∃a o vs,v= .ref a/\R a o vs)(k:∀a o vs,R a o vs->Q (.ref a)):Q v:=h.elim λ a h=>h.elim λ o h=>h.elim λ vs h=>h.1▸k a o vs h.2
theorem VR.Dr{ns:ae Int}(h:VR G ρ (.row ns) v)(k:∀l o vs,G l=af o->i3 o vs->cx ns vs.toList->Q (.ref l)):Q v:=M0 h λ a o vs h=>k a o vs h.1 h.2.1 h.2.2
theorem VR.lstU{ns:ae AV}(h:VR G ρ (.lst ns) v)(k:∀l o vs,G l=af o->i3 o vs->bJ G ρ ns vs.toList->Q (.ref l)):Q v:=M0 h λ a o vs h=>k a o vs h.1 h.2.1 h.2.2
theorem VR.Jy{ns:ae AV}(h:VR G ρ (.tup ns) v)(k:∀l o vs,G l=af o->pG o vs->bJ G ρ ns vs.toList->Q (.ref l)):Q v:=M0 h λ a o vs h=>k a o vs h.1 h.2.1 h.2.2
end
noncomputable def adg(a:AV):aC:=match a with
 | .own _=>true
 | .fn _=>true
 | .lq _=>true
 | .m9 _=>true
 | .tup _=>true
 | .lst _=>true
 | .row _=>true
 | .inst _ _ _=>true
 | .j_ _ _ _=>true
 | .iO _ _=>true
 | .bG _ _=>true
 |_=>false
theorem VR.isRef{G:BM}{ρ:ae au}{a:AV}{v:ak}(h:VR G ρ a v)(r:adg a=true):∃x,v= .ref x:=by
 rcases a with _|_|_|_|_|_|_|_|_|_|_|_|_|_|_|_|_|_
 case own=>exact cR (λ aa h=>h.2) h
 case fn=>exact⟨_,eH h⟩
 case inst=>exact cR (λ aa h=>h.elim λ aa h=>h.elim λ aa h=>h.elim λ aa h=>h.elim λ aa h=>h.1) h
 case j_=>exact cR (λ aa h=>h.elim λ aa h=>h.elim λ aa h=>h.elim λ aa h=>h.1) h
 case iO=>exact cR (λ aa h=>h.elim λ aa h=>h.elim λ aa h=>h.elim λ aa h=>h.elim λ aa h=>h.1) h
 case bG=>exact cR (λ aa h=>h.elim λ aa h=>h.elim λ aa h=>h.elim λ aa h=>h.elim λ aa h=>h.1) h
 all_goals first|exact ay r|exact cR (λ aa h=>h.elim λ aa h=>h.elim λ aa h=>h.1) h
theorem bJ.cc{G:BM}{ρ:ae au}{a:AV}{as:ae AV}{v:ak}{vs:ae ak}(h:bJ G ρ (a::as) (v::vs)):VR G ρ a v/\bJ G ρ as vs:=
 aD h λ aa h=>h.elim λ aa h=>have e:=qt h.1; ⟨e.1▸h.2.1,e.2▸h.2.2⟩
section
variable{G:BM}{ρ:ae au}{vs:ae ak}{Q:ae ak->Prop}{a b c:AV}
theorem bJ.u1(h:bJ G ρ [a] vs)(k:∀v,VR G ρ a v->Q [v]):Q vs:=h.uc (Q:=Q) λ v aa h1 h2=>h2.u0 (Q:=λ r=>Q (v::r)) (k v h1)
theorem bJ.u2(h:bJ G ρ [a,b] vs)(k:∀v w,VR G ρ a v->VR G ρ b w->Q [v,w]):Q vs:=h.uc (Q:=Q) λ v aa h1 h2=>h2.u1 (Q:=λ r=>Q (v::r)) λ w=>k v w h1
theorem bJ.u3(h:bJ G ρ [a,b,c] vs)(k:∀v w x,VR G ρ a v->VR G ρ b w->VR G ρ c x->Q [v,w,x]):Q vs:=h.uc (Q:=Q) λ v aa h1 h2=>h2.u2 (Q:=λ r=>Q (v::r)) λ w x=>k v w x h1
end
structure RM(G:BM)(ρ:ae au)(mem:ae AO)(h:Heap):Prop where
 kg:∀a o,G a=af o->h.get? a=af o
 len:ρ.length=mem.length
 obj:∀(i:Nat) (a:au) (ao:AO),ρ[i]?=af a->mem[i]?=af ao->∃o,h.get? a=af o/\OR G ρ ao o
 nd:ρ.Nodup
 fr:∀a∈ρ,G a= .none
section
theorem ju{α:Type}{l:ae α}{i:Nat}{a:α}(h:l[i]?=af a):i < l.length:=(jo.mp h).1
theorem oV{α:Type}{l:ae α}{i:Nat}(h:i < l.length):∃a,l[i]?=af a:=⟨_,d_ h⟩
theorem vM{α:Type}{x y:α}{Q:Prop}:∀{l:ae α} {i:Nat},(l++[x])[i]?=af y->(l[i]?=af y->Q)->(i=l.length->y=x->Q)->Q
 |[],0=>λ h aa k=>k rfl (am h).symm
 |[],_+1=>λ h aa aa=>cm h
 |_::_,0=>λ h k aa=>k h
 |_::l,i+1=>λ h k k'=>vM (l:=l) (i:=i) h k λ e=>k' (ah (·+1) e)
theorem Nr{α:Type}{x y:α}{Q:Prop}:∀{l:ae α} {i j:Nat},(l.set i x)[j]?=af y->(i=j->y=x->Q)->(i≠j->l[j]?=af y->Q)->Q
 |[],_,_=>λ h aa aa=>cm h
 |_::_,0,0=>λ h k aa=>k rfl (am h).symm
 |_::_,0,_+1=>λ h aa k=>k (λ e=>nomatch e) h
 |_::_,_+1,0=>λ h aa k=>k (λ e=>nomatch e) h
 |_::l,i+1,j+1=>λ h k k'=>Nr (l:=l) (i:=i) (j:=j) h (λ e=>k (ah (·+1) e)) λ n=>k' λ e=>n (eL e)
theorem dh{α:Type}{x:aq α}{a:α}{Q:Prop}(h:x=none)(k:x=af a):Q:=cm (h.symm.trans k)
theorem none_of{α:Type}{x:aq α}(h:∀a,x=af a->False):x=none:=Option.eq_none_iff_forall_ne_some.mpr h
variable{G G':BM}{h h':Heap}{ρ:ae au}{mem:ae AO}
theorem RM.at(R:RM G ρ mem h){i:Nat}{ao:AO}(e:mem[i]?=af ao):∃a o,ρ[i]?=af a/\h.get? a=af o/\OR G ρ ao o:=
 (oV (R.len▸ju e)).imp λ a hi=>(R.obj i a ao hi e).imp λ aa=> .intro hi
theorem iq{l:ae au}{i:Nat}{a:au}(e:l[i]?=af a):a∈l:=dB e
theorem RM.some_of(R:RM G ρ mem h){a:au}(ha:a∈ρ):∃o,h.get? a=af o:=
 (l7 ha).elim λ i hi=>(oV (R.len▸ju hi)).elim λ ao e=>(R.obj i a ao hi e).imp λ aa=>eH
theorem RM.yz(R:RM G ρ mem h){a:au}(ha:h.get? a=none):G a=none:=none_of λ o e=>dh ha (R.kg a o e)
theorem RM.MF(R:RM G ρ mem h){a:au}(ha:h.get? a=none):a∉ρ:=λ hm=>(R.some_of hm).elim λ aa=>dh ha
theorem RM.HQ(R:RM G ρ mem h)(k:∀a o,(a∈ρ\/G a=af o)->h.get? a=af o->h'.get? a=af o):RM G ρ mem h':=
 ⟨λ a o e=>k a o (.inr e) (R.kg a o e),R.len,λ i a ao hi e=>(R.obj i a ao hi e).imp λ o=> .imp_left (k a o (.inl (iq hi))),R.nd,R.fr⟩
theorem RM.keeps(R:RM G ρ mem h)(k:∀a o,h.get? a=af o->h'.get? a=af o):RM G ρ mem h':=R.HQ λ a o aa e=>k a o e
theorem RM.wide(R:RM G ρ mem h)(g:dG G G')(k:∀a o,G' a=af o->h.get? a=af o)(d:∀a∈ρ,G' a= .none):RM G' ρ mem h:=
 ⟨k,R.len,λ i a ao hi e=>(R.obj i a ao hi e).imp λ aa=> .imp_right (OR.up g (Ext.refl _)),R.nd,d⟩
theorem RM.turn(R:RM G ρ mem h){i:Nat}{a:au}{wf:AO}{o':Obj}(hi:ρ[i]?=af a)(he:h'.get? a=af o')(q:OR G ρ wf o')
  (k:∀b o,b≠a->h.get? b=af o->h'.get? b=af o):RM G ρ (mem.set i wf) h':=
 ⟨λ b o e=>k b o (λ z=>dh (R.fr a (iq hi)) (z▸e)) (R.kg b o e),R.len.trans iM.symm,
  λ j b ao hj e=>Nr e (λ ij z=>have ab:a=b:=am (hi.symm.trans ((ah (ρ[·]?) ij).trans hj)); ⟨o',ab▸he,z▸q⟩)
   λ n e=>(R.obj j b ao hj e).imp λ o=> .imp_left (k b o λ z=>n ((n7 (ju hi) R.nd).mp (hi.trans ((ah af z.symm).trans hj.symm)))),R.nd,R.fr⟩
theorem RM.new(R:RM G ρ mem h){a:au}{ao:AO}{o:Obj}(ha:h.get? a= .none)(he:h'.get? a=af o)(q:OR G (ρ++[a]) ao o)
  (k:∀b o,h.get? b=af o->h'.get? b=af o):RM G (ρ++[a]) (mem++[ao]) h':=
 ⟨λ b o e=>k b o (R.kg b o e),by rw[bj,bj,R.len]; rfl,
  λ i b bo hi e=>vM hi (λ hi=>vM e (λ e=>(R.obj i b bo hi e).imp λ o=> .imp (k b o) (OR.up (dG.refl _) (Ext.snoc ρ a))) λ z aa=>bt (ju hi) (R.len▸z▸fA _))
   λ z y=>vM e (λ e=>bt (ju e) (R.len▸z▸fA _)) λ aa x=>⟨o,y▸he,x▸q⟩,
  gU.mpr ⟨R.nd,pg _ _,λ x hx y hy z=>R.MF ha ((z.trans (be.mp hy))▸hx)⟩,
  λ b hb=>(fS.mp hb).elim (R.fr b) λ hb=>be.mp hb▸R.yz ha⟩
noncomputable def BM.with(G:BM)(a:au)(o:Obj):BM:=λ b=>if b=a then af o else G b
theorem BM.zC(G:BM)(a:au)(o:Obj):G.with a o a=af o:=dq rfl
theorem BM.A6{a b:au}{o:Obj}(n:b≠a):G.with a o b=G b:=bC n
theorem BM.RN{a:au}{o:Obj}(e:G a= .none):dG G (G.with a o):=λ b o' q=>(BM.A6 λ z=>dh e (z▸q)).trans q
theorem BM.Hs{a b:au}{o o':Obj}{Q:Prop}(h:G.with a o b=af o')(k:b=a->o=o'->Q)(k':G b=af o'->Q):Q:=
 (d5 (b=a)).elim (λ z=>k z (am ((dq z).symm.trans h))) λ n=>k' ((BM.A6 n).symm.trans h)
theorem RM.freeze(R:RM G ρ mem h){a:au}{o:Obj}(ha:h.get? a= .none)(he:h'.get? a=af o)
  (k:∀b o,h.get? b=af o->h'.get? b=af o):RM (G.with a o) ρ mem h'/\dG G (G.with a o):=
 have g:=BM.RN (o:=o) (R.yz ha)
 ⟨(R.keeps k).wide g (λ b o' e=>BM.Hs e (λ z y=>z▸y▸he) λ e=>k _ _ (R.kg b o' e)) λ b hb=>(BM.A6 λ(z:b=a)=>R.MF ha (z▸hb)).trans (R.fr b hb),g⟩
end
def bM(l:ae AO):Nat->aq AO:=Xq af none l
def bz(l:ae AO)(i:Nat)(v:AO):ae AO:=Nq v l i
theorem eO:∀(l:ae AO) (i:Nat),bM l i=l[i]?
 |[],_=>rfl
 |_::_,0=>rfl
 |_::r,i+1=>by rw[List.getElem?_cons_succ]; exact eO r i
theorem ou:∀(l:ae AO) (i:Nat) (v:AO),bz l i v=l.set i v
 |[],_,_=>rfl
 |_::_,0,_=>rfl
 |u::r,i+1,v=>ah (u::·) (ou r i v)
structure m8(lo size code left:Int)(L:Nat):Prop where
 s0:lo<=size
 s1:size<=65536
 c0:0<=code
 l0:0<=left
 l1:left<=11
 cap:(code+size) * 2 ^ left.toNat<=150994944
 T0:L=0->(code+size) * 2 ^ left.toNat<=134217728
structure pi(size code left:Int)(bs:ae b7):Prop where
 b:m8 32768 size code left bs.length
 l:1<=left
inductive TV where
 |ex (v:AV)|rg (l u:Int)|ai|tb|JT (n:Nat)|tp (a b:TV)|rw(q:ae (Int×Int))|ln|lc (h t:TV)|nr (v l u:Int)|gr (R:ae (ae (ae (ae Int))))
inductive TO where
 |ns (ks:ae Nat) (vs:ae TV)|inst (C:au) (j:Nat)|lst (vs:ae TV)|il (q:ae (Int×Int))|Al (n:Nat) (l u:Int)
 |iO (ks:ae Int) (vs:ae TV)|bG (ks:ae (ae Int)) (vs:ae TV)|enc (q L:Nat)|ba|ix (r:ae Int)
structure AS where
 loc:ae TV
 mem:ae TO
noncomputable def rb:ae (Int×Int)->ae Int->Prop
 |[],r=>r=[]
 |q::qs,r=>∃x xs,r=x::xs/\q.1<=x/\x<=q.2/\rb qs xs
noncomputable def Ga(r:ae Int)(c:AV):Prop:=c= .row r\/(c= .none/\r=[0,0,0,0])
noncomputable def tB{α:Type}(P:α->AV->Prop):ae α->ae AV->Prop
 |[],cs=>cs=[]
 |r::rs,cs=>∃c t,cs=c::t/\P r c/\tB P rs t
noncomputable def Ip{α:Type}(P:ae α->ae AV->Prop)(r:ae α)(v:AV):Prop:=∃c,v= .lst c/\P r c
abbrev zH:=tB Ga
abbrev TA:=tB (Ip zH)
abbrev vl:=tB (Ip TA)
def ng(R:ae (ae (ae (ae Int))))(x:AV):Prop:=∃ps,x= .inst 812 [28,29] [.int 4, .lst ps]/\vl R ps
noncomputable def GV:TV->AV->Prop
 | .ex v,x=>x=v
 | .rg l u,x=>∃i,x= .int i/\l<=i/\i<=u
 | .ai,x=>∃i,x= .int i
 | .tb,x=>∃b,x= .bool b
 | .JT n,x=>∃bs,x= .j9 bs/\bs.length<=n
 | .tp a b,x=>∃y z,x= .tup [y,z]/\GV a y/\GV b z
 | .rw q,x=>∃r,x= .row r/\rb q r
 | .ln,x=>x= .lst []
 | .lc h t,x=>∃y ys,x= .lst (y::ys)/\GV h y/\GV t (.lst ys)
 | .nr v l u,x=>x= .int v/\l<=v/\v<=u
 | .gr R,x=>ng R x
noncomputable def dH:ae TV->ae AV->Prop
 |[],us=>us=[]
 |t::ts,us=>∃u r,us=u::r/\GV t u/\dH ts r
def GO(m:ae AO):TO->AO->Prop
 | .ns ks vs,o=>∃us,o= .ns ks us/\dH vs us
 | .inst C j,o=>o= .inst C j
 | .lst vs,o=>∃us,o= .lst us/\dH vs us
 | .il q,o=>∃r,o= .il r/\rb q r
 | .Al n l u,o=>∃r,o= .il r/\r.length=n/\∀x∈r,l<=x/\x<=u
 | .iO ks vs,o=>∃us,o= .iO ks us/\dH vs us
 | .bG ks vs,o=>∃us,o= .bG ks us/\dH vs us
 | .enc q L,o=>∃size code left bs,o= .ns [13,14,15,16] [.int size, .int code, .int left, .own q]/\bM m q=af (.ba bs)/\pi size code left bs/\bs.length<=L
 | .ba,o=>∃bs,o= .ba bs
 | .ix r,o=>o= .il r
def gW(l:ae TO):Nat->aq TO:=Xq af none l
def q8(l:ae TO)(i:Nat)(v:TO):ae TO:=Nq v l i
noncomputable def wO:TO->aC
 | .ba=>true
 |_=>false
noncomputable def mq:TO->aq Nat
 | .enc q _=>af q
 |_=>none
structure GM(t:ae TO)(m:ae AO):Prop where
 len:t.length=m.length
 get:∀i o,gW t i=af o->∃o',bM m i=af o'/\GO m o o'
 enc:∀i o q,gW t i=af o->mq o=af q->gW t q=af .ba
structure GS(s:AS)(σ:St):Prop where
 loc:dH s.loc σ.loc
 mem:GM s.mem σ.mem
theorem qm:∀{t:ae TO} {i:Nat} {o:TO},gW t i=af o->i < t.length
 |[],_,_=>cm
 |_::_,0,_=>λ aa=>pC _
 |_::r,_+1,_=>λ h=>gj (qm (t:=r) h)
theorem pf{o y:TO}{Q:Prop}:∀{t:ae TO} {i j:Nat},gW (q8 t i o) j=af y->(j=i->y=o->Q)->(j≠i->gW t j=af y->Q)->Q
 |[],_,_=>λ h aa aa=>cm h
 |_::_,0,0=>λ h k aa=>k rfl (am h).symm
 |_::_,0,_+1=>λ h aa k=>k (cy _) h
 |_::_,_+1,0=>λ h aa k=>k (cy _).symm h
 |_::l,i+1,j+1=>λ h k k'=>pf (t:=l) (i:=i) (j:=j) h (λ e=>k (ah (·+1) e)) λ n=>k' λ e=>n (eL e)
theorem lF{o:TO}:∀{t:ae TO} {i j:Nat},j≠i->gW (q8 t i o) j=gW t j
 |[],_,_=>λ aa=>rfl
 |_::_,0,0=>λ n=>bt rfl n
 |_::_,0,_+1=>λ aa=>rfl
 |_::_,_+1,0=>λ aa=>rfl
 |_::l,_+1,_+1=>λ n=>lF (t:=l) λ e=>n (ah (·+1) e)
theorem fP(l:ae AO)(i:Nat)(v:AO):(bz l i v).length=l.length:=ou l i v▸iM
theorem iY:∀{l:ae AO} {i:Nat} {v:AO},i < l.length->bM (bz l i v) i=af v
 |[],_,_=>λ h=>bt h (mz _)
 |_::_,0,_=>λ aa=>rfl
 |_::r,_+1,_=>λ h=>iY (l:=r) (iw h)
theorem dV:∀{l:ae AO} {i j:Nat} {v:AO},j≠i->bM (bz l i v) j=bM l j
 |[],_,_,_=>λ aa=>rfl
 |_::_,0,0,_=>λ n=>bt rfl n
 |_::_,0,_+1,_=>λ aa=>rfl
 |_::_,_+1,0,_=>λ aa=>rfl
 |_::l,_+1,_+1,_=>λ n=>dV (l:=l) λ e=>n (ah (·+1) e)
theorem xu{o y:TO}{Q:Prop}:∀{t:ae TO} {j:Nat},gW (t++[o]) j=af y->(j=t.length->y=o->Q)->(gW t j=af y->Q)->Q
 |[],0=>λ h k aa=>k rfl (am h).symm
 |[],_+1=>λ h aa aa=>cm h
 |_::_,0=>λ h aa k=>k h
 |_::l,j+1=>λ h k k'=>xu (t:=l) (j:=j) h (λ e=>k (ah (·+1) e)) k'
theorem xv{o y:TO}:∀{t:ae TO} {j:Nat},gW t j=af y->gW (t++[o]) j=af y
 |[],_=>cm
 |_::_,0=>id
 |_::l,j+1=>λ h=>xv (t:=l) (j:=j) h
theorem qe{o:AO}:∀{t:ae AO},bM (t++[o]) t.length=af o
 |[]=>rfl
 |_::l=>qe (t:=l)
theorem se{o:AO}:∀{t:ae AO} {j:Nat},j≠t.length->bM (t++[o]) j=bM t j
 |[],0=>λ n=>bt rfl n
 |[],_+1=>λ aa=>rfl
 |_::_,0=>λ aa=>rfl
 |_::l,_+1=>λ n=>se (t:=l) λ e=>n (ah (·+1) e)
theorem tf:∀(t:ae TO) (i:Nat) (o:TO),(q8 t i o).length=t.length
 |[],_,_=>rfl
 |_::_,0,_=>rfl
 |v::r,i+1,o=>ah (·+1) (tf r i o)
theorem GO.frame{m m':ae AO}{o:TO}{o':AO}(h:GO m o o')(k:∀q,mq o=af q->bM m' q=bM m q):GO m' o o':=by
 rcases o with _|_|_|_|_|_|_|⟨q,L⟩|_|_
 case enc=>exact cR (λ aa=> .imp λ aa=> .imp λ aa=> .imp λ aa=> .imp_right<| .imp_left (k q rfl).trans) h
 all_goals exact h
theorem GM.at{t:ae TO}{m:ae AO}(g:GM t m){i:Nat}{o:TO}(h:gW t i=af o):∃o',bM m i=af o'/\GO m o o':=g.get i o h
theorem GM.nq{t:ae TO}{m:ae AO}(g:GM t m){i:Nat}{o:TO}(h:gW t i=af o)(nb:wO o=false)(j:Nat)(x:TO)(q:Nat)(hj:gW t j=af x)(hq:mq x=af q):q≠i:=
 λ z=>ay ((ah wO (am (h.symm.trans (z▸g.enc j x q hj hq)))).symm.trans nb)
theorem GM.set{t:ae TO}{m:ae AO}(g:GM t m){i:Nat}{o o₁:TO}{me:AO}(h:gW t i=af o)(nb:wO o=false)(h1:GO m o₁ me)(e1:mq o₁=none\/mq o₁=mq o):GM (q8 t i o₁) (bz m i me):=
 have nq:=g.nq h nb
 have e2:∀q,mq o₁=af q->mq o=af q:=λ q e=>e1.elim (λ n=>cm (n.symm.trans e)) λ z=>z.symm.trans e
 ⟨(tf ..).trans (g.len.trans (fP ..).symm),
  λ j x hj=>pf hj (λ z y=>z.symm▸y.symm▸⟨me,iY (g.len▸qm h),h1.frame λ q hq=>dV (nq i o q h (e2 q hq))⟩)
   λ n hj=>(g.get j x hj).imp λ o'=> .imp (dV n).trans (GO.frame · λ q hq=>dV (nq j x q hj hq)),
  λ j x q hj hq=>pf hj (λ aa y=>have hq:=e2 q (y▸hq); (lF (nq i o q h hq)).trans (g.enc i o q h hq)) λ aa hj=>(lF (nq j x q hj hq)).trans (g.enc j x q hj hq)⟩
theorem GM.app{t:ae TO}{m:ae AO}(g:GM t m){o:TO}{o':AO}(h:GO m o o')(e:mq o=none):GM (t++[o]) (m++[o']):=
 have nl:∀q,gW t q=af .ba->q≠m.length:=λ q hq z=>fA _ (z▸g.len▸qm hq)
 ⟨by rw[bj,bj,g.len]; rfl,
  λ j x hj=>xu hj (λ z y=>(z.trans g.len)▸y▸⟨o',qe,h.frame λ q hq=>cm (e.symm.trans hq)⟩)
   λ hj=>(g.get j x hj).imp λ o'=> .imp (se λ z=>fA _ (z▸g.len▸qm hj)).trans (GO.frame · λ q hq=>se (nl q (g.enc j x q hj hq))),
  λ j x q hj hq=>xu hj (λ aa y=>cm (e.symm.trans (y▸hq))) λ hj=>xv (g.enc j x q hj hq)⟩
noncomputable def ob{α β:Type}(x:aq α)(f:α->aq β):aq β:=mU (motive:=λ aa=>aq β) none f x
theorem ob.u{α β:Type}{x:aq α}{f:α->aq β}{y:β}{Q:Prop}(h:ob x f=af y)(k:∀a,x=af a->f a=af y->Q):Q:=by
 rcases x with _|a
 ·exact cm h
 ·exact k a rfl h
theorem MH{α β:Type}{x:aq α}{f:α->aq β}{y:β}(h:ob x f=af y):∃a,x=af a/\f a=af y:=ob.u h λ a e h=>⟨a,e,h⟩
noncomputable def nB{α:Type}(b:aC)(x:aq α):aq α:=iK (motive:=λ aa=>aq α) none x b
theorem nB.u{α:Type}{b:aC}{x:aq α}{y:α}{Q:Prop}(h:nB b x=af y)(k:b=true->x=af y->Q):Q:=by
 rcases b
 ·exact cm h
 ·exact k rfl h
noncomputable def jS{α β:Type}:(x:aq α)->((a:α)->x=af a->aq β)->aq β
 |some a,f=>f a rfl
 |none,_=>none
noncomputable def bE{β:Type}:(b:aC)->(b=true->aq β)->aq β
 |true,f=>f rfl
 |false,_=>none
theorem bE.u{β:Type}{b:aC}{f:b=true->aq β}{y:β}{Q:Prop}(h:bE b f=af y)(k:∀e:b=true,f e=af y->Q):Q:=by
 rcases b
 ·exact cm h
 ·exact k rfl h
noncomputable def oe{α:Type}(x y:aq α):aq α:=mU (motive:=λ aa=>aq α) y af x
noncomputable def nU(t:TV):aq {p:Nat // t= .ex (.own p)}:=TV.rec (motive:=λ t=>aq {p:Nat // t= .ex (.own p)}) (λ v=>AV.rec (motive_1:=λ v=>aq {p:Nat // TV.ex v= .ex (.own p)}) (motive_2:=λ aa=>e6) none none (λ aa=>none) (λ aa=>none) (λ aa=>none) (λ p=>af ⟨p,rfl⟩) (λ aa=>none) (λ aa=>none) (λ aa=>none) (λ aa=>none) (λ aa aa=>none) (λ aa aa=>none) (λ aa=>none) (λ aa aa aa aa=>none) none (λ aa aa aa=>none) (λ aa aa aa=>none) (λ aa aa aa=>none) () (λ aa aa aa aa=>()) v) (λ aa aa=>none) none none (λ aa=>none) (λ aa aa aa aa=>none) (λ aa=>none) none (λ aa aa aa aa=>none) (λ aa aa aa=>none) (λ aa=>none) t
noncomputable def Tg(t:TV):aq {c:au×ae Nat×ae AV // t= .ex (.inst c.1 c.2.1 c.2.2)}:=match t with
 | .ex (.inst C ks vs)=>af ⟨(C,ks,vs),rfl⟩
 |_=>none
noncomputable def Hp(o:TO):aq {c:au×Nat // o= .inst c.1 c.2}:=match o with
 | .inst C j=>af ⟨(C,j),rfl⟩
 |_=>none
noncomputable def oNs(o:TO):aq {c:ae Nat×ae TV // o= .ns c.1 c.2}:=match o with
 | .ns ks vs=>af ⟨(ks,vs),rfl⟩
 |_=>none
noncomputable def oKs(o:TO):aq {ks:ae Nat // ∀m o',GO m o o'->∃us,o'= .ns ks us}:=match o with
 | .ns ks vs=>af ⟨ks,λ aa aa=>cR λ aa=>eH⟩
 | .enc _ _=>af ⟨[13,14,15,16],λ aa aa g=>aD g λ aa g=>g.elim λ aa g=>g.elim λ aa g=>g.elim λ aa g=>⟨_,g.1⟩⟩
 |_=>none
noncomputable def oLst(o:TO):aq {c:ae TV // o= .lst c}:=match o with
 | .lst vs=>af ⟨vs,rfl⟩
 |_=>none
noncomputable def oIl(o:TO):aq {c:ae (Int×Int) // o= .il c}:=match o with
 | .il vs=>af ⟨vs,rfl⟩
 |_=>none
noncomputable def Zf(o:TO):aq {c:ae Int×ae TV // o= .iO c.1 c.2}:=match o with
 | .iO ks vs=>af ⟨(ks,vs),rfl⟩
 |_=>none
noncomputable def oDct(o:TO):aq {c:ae (ae Int)×ae TV // o= .bG c.1 c.2}:=match o with
 | .bG ks vs=>af ⟨(ks,vs),rfl⟩
 |_=>none
noncomputable def Wc(t:TV):aq {c:ae Int // t= .ex (.row c)}:=match t with
 | .ex (.row c)=>af ⟨c,rfl⟩
 |_=>none
noncomputable def tRw(t:TV):aq {c:ae (Int×Int) // t= .rw c}:=match t with
 | .rw c=>af ⟨c,rfl⟩
 |_=>none
noncomputable def tTp(t:TV):aq {c:TV×TV // t= .tp c.1 c.2}:=match t with
 | .tp a b=>af ⟨(a,b),rfl⟩
 |_=>none
noncomputable def lz(t:TV):aq {i:Int // t= .ex (.int i)}:=TV.rec (motive:=λ t=>aq {i:Int // t= .ex (.int i)}) (λ v=>AV.rec (motive_1:=λ v=>aq {i:Int // TV.ex v= .ex (.int i)}) (motive_2:=λ aa=>e6) none none (λ aa=>none) (λ i=>af ⟨i,rfl⟩) (λ aa=>none) (λ aa=>none) (λ aa=>none) (λ aa=>none) (λ aa=>none) (λ aa=>none) (λ aa aa=>none) (λ aa aa=>none) (λ aa=>none) (λ aa aa aa aa=>none) none (λ aa aa aa=>none) (λ aa aa aa=>none) (λ aa aa aa=>none) () (λ aa aa aa aa=>()) v) (λ aa aa=>none) none none (λ aa=>none) (λ aa aa aa aa=>none) (λ aa=>none) none (λ aa aa aa aa=>none) (λ aa aa aa=>none) (λ aa=>none) t
noncomputable def Wa(t:TV):aq {n:Nat // t= .JT n}:=match t with
 | .JT n=>af ⟨n,rfl⟩
 |_=>none
noncomputable def Z2(t:TV):aq {u:e6 // ∀v,GV t v->∃b,v= .bool b}:=match t with
 | .tb=>af ⟨(),λ v g=>g⟩
 | .ex (.bool b)=>af ⟨(),λ v g=>⟨b,g⟩⟩
 |_=>none
def WU(l:ae (Int×Int)):Nat->aq (Int×Int):=Xq af none l
def QQ(l:ae (Int×Int))(i:Nat)(q:Int×Int):ae (Int×Int):=Nq q l i
noncomputable def tFn(t:TV):aq {g:au // t= .ex (.fn g)}:=match t with
 | .ex (.fn g)=>af ⟨g,rfl⟩
 |_=>none
noncomputable def adx(t:TV):aq {g:au // t= .ex (.val (.ref g))}:=match t with
 | .ex (.val (.ref g))=>af ⟨g,rfl⟩
 |_=>none
noncomputable def Ti(t:TV):aq {u:e6 // t= .ex .none}:=match t with
 | .ex .none=>af ⟨(),rfl⟩
 |_=>none
noncomputable def D2{α β:Type}(R:(α->St->Prop)->Prop)(g:β->α->Prop)(outs:ae (β×AS)):Prop:=
 ∃a σ,(∃o∈outs,g o.1 a/\GS o.2 σ)/\∀K:α->St->Prop,K a σ->R K
def Ab{α β:Type}(ab:AS->aq (ae (β×AS)))(run:St->(α->St->Prop)->Prop)(g:β->α->Prop):Prop:=
 ∀s outs,ab s=af outs->∀σ,GS s σ->D2 (run σ) g outs
noncomputable def Xn{α:Type}(a b:ae α):ae α:=k6 (motive:=λ aa=>ae α) b (λ x aa r=>x::r) a
theorem Gr{α:Type}:∀(a b:ae α),Xn a b=a++b
 |[],_=>rfl
 |x::r,b=>ah (m5 x) (Gr r b)
noncomputable def bOl{β γ:Type}(f:β->AS->aq (ae (γ×AS)))(l:ae (β×AS)):aq (ae (γ×AS)):=k6 (motive:=λ aa=>aq (ae (γ×AS))) (af []) (λ o aa k=>ob (f o.1 o.2) λ l=>ob k λ l'=>af (Xn l l')) l
noncomputable def bO{β γ:Type}(x:aq (ae (β×AS)))(f:β->AS->aq (ae (γ×AS))):aq (ae (γ×AS)):=ob x λ l=>bOl f l
section
variable{α α' β WA:Type}{g:β->α->Prop}{g':WA->α'->Prop}
theorem KD{f:β->AS->aq (ae (WA×AS))}:∀{l:ae (β×AS)} {outs:ae (WA×AS)},bOl f l=af outs->∀o∈l,∃l',f o.1 o.2=af l'/\∀p∈l',p∈outs
 |[],_=>λ aa aa ho=>bt ho bK
 |x::r,outs=>λ h o ho=>ob.u h λ l e h=>ob.u h λ l' e2 h=>am ((ah af (Gr l l')).symm.trans h)▸(bQ.mp ho).elim (λ z=>z▸⟨l,e,λ aa=>dA _⟩)
   λ ho=>(KD e2 o ho).imp λ aa=> .imp_right λ b p hp=>cD _ (b p hp)
theorem D2.up{R:(α->St->Prop)->Prop}{l l':ae (β×AS)}(h:D2 R g l)(k:∀p∈l,p∈l'):D2 R g l':=
 h.imp λ aa=> .imp λ aa=> .imp_left<| .imp λ o=> .imp_left (k o)
theorem D2.ret{b:β}{a:α}{s:AS}{σ:St}(ga:g b a)(gs:GS s σ):D2 (λ K=>K a σ) g [(b,s)]:=⟨a,σ,⟨_,be.mpr rfl,ga,gs⟩,λ aa k=>k⟩
theorem D2.u{R:(α->St->Prop)->Prop}{l:ae (β×AS)}{Q:Prop}(h:D2 R g l)(k:∀a σ b s,(b,s)∈l->g b a->GS s σ->(∀K:α->St->Prop,K a σ->R K)->Q):Q:=
 h.elim λ a h=>h.elim λ σ h=>h.1.elim λ o m=>k a σ o.1 o.2 m.1 m.2.1 m.2.2 h.2
theorem D2.bind{R:(α->St->Prop)->Prop}{l:ae (β×AS)}{f:β->AS->aq (ae (WA×AS))}{outs:ae (WA×AS)}{C:α->St->(α'->St->Prop)->Prop}(h:D2 R g l)(e:bOl f l=af outs)
  (k:∀b s l',f b s=af l'->∀a σ,g b a->GS s σ->D2 (C a σ) g' l'):D2 (λ K=>R λ a σ=>C a σ K) g' outs:=
 h.u λ a σ b s m ga gs r=>(KD e _ m).elim λ l' e=>((k b s l' e.1 a σ ga gs).up e.2).imp λ aa=> .imp λ aa=> .imp_right λ r' K z=>r _ (r' K z)
theorem Ab.bind{ab:AS->aq (ae (β×AS))}{run:St->(α->St->Prop)->Prop}{f:β->AS->aq (ae (WA×AS))}{outs:ae (WA×AS)}{C:α->St->(α'->St->Prop)->Prop}{s:AS}{σ:St}(h:Ab ab run g)(e:bO (ab s) f=af outs)(gs:GS s σ)
  (k:∀b s l',f b s=af l'->∀a σ,g b a->GS s σ->D2 (C a σ) g' l'):D2 (λ K=>run σ λ a σ=>C a σ K) g' outs:=ob.u e λ l q e=>(h s l q σ gs).bind e k
theorem D2.eq{R R':(α->St->Prop)->Prop}{l:ae (β×AS)}(h:D2 R g l)(k:∀K,R K->R' K):D2 R' g l:=h.imp λ aa=> .imp λ aa=> .imp_right λ r K z=>k K (r K z)
theorem D2.one{b:β}{a:α}{s:AS}{σ:St}{outs:ae (β×AS)}{R:(α->St->Prop)->Prop}(h:af [(b,s)]=af outs)(ga:g b a)(gs:GS s σ)(k:∀K:α->St->Prop,K a σ->R K):D2 R g outs:=am h▸(D2.ret ga gs).eq k
end
section
variable{t t':TV}{ts:ae TV}{us:ae AV}{Q:ae AV->Prop}
theorem dH.u0(h:dH [] us)(k:Q []):Q us:=(show us=[] from h)▸k
theorem dH.uc(h:dH (t::ts) us)(k:∀u r,GV t u->dH ts r->Q (u::r)):Q us:=aD h λ u h=>h.elim λ r h=>h.1▸k u r h.2.1 h.2.2
theorem dH.u1(h:dH [t] us)(k:∀u,GV t u->Q [u]):Q us:=h.uc (Q:=Q) λ u aa g h=>h.u0 (Q:=λ r=>Q (u::r)) (k u g)
theorem dH.u2(h:dH [t,t'] us)(k:∀u v,GV t u->GV t' v->Q [u,v]):Q us:=h.uc (Q:=Q) λ u aa g h=>h.u1 (Q:=λ r=>Q (u::r)) λ v=>k u v g
theorem dH.cons{u:AV}(g:GV t u)(h:dH ts us):dH (t::ts) (u::us):=⟨u,us,rfl,g,h⟩
end
theorem dH.len:∀{ts:ae TV} {us:ae AV},dH ts us->us.length=ts.length
 |[],_=>λ h=>h.u0 (Q:=λ us=>us.length=0) rfl
 |_::ts,_=>λ h=>h.uc (Q:=λ us=>us.length=ts.length+1) λ aa aa aa h=>ah (·+1) (dH.len h)
theorem rb.u0{r:ae Int}{Q:ae Int->Prop}(h:rb [] r)(k:Q []):Q r:=(show r=[] from h)▸k
theorem rb.uc{q:Int×Int}{qs:ae (Int×Int)}{r:ae Int}{Q:ae Int->Prop}(h:rb (q::qs) r)(k:∀x xs,q.1<=x->x<=q.2->rb qs xs->Q (x::xs)):Q r:=aD h λ x h=>h.elim λ xs h=>h.1▸k x xs h.2.1 h.2.2.1 h.2.2.2
theorem rb.len:∀{q:ae (Int×Int)} {r:ae Int},rb q r->r.length=q.length
 |[],_=>λ h=>h.u0 (Q:=λ r=>r.length=0) rfl
 |_::q,_=>λ h=>h.uc (Q:=λ r=>r.length=q.length+1) λ aa aa aa aa h=>ah (·+1) h.len
theorem dH.snoc{t:TV}{u:AV}(g:GV t u):∀{ts:ae TV} {us:ae AV},dH ts us->dH (ts++[t]) (us++[u])
 |[],_=>λ h=>h.u0 (Q:=λ us=>dH [t] (us++[u])) (.cons g rfl)
 |x::ts,_=>λ h=>h.uc (Q:=λ us=>dH (x::(ts++[t])) (us++[u])) λ aa aa a h=> .cons a (dH.snoc g h)
section
variable{κ:Type}{e:κ->κ->aC}{x:κ}{t:TV}
theorem Au:∀{ks:ae κ} {ts:ae TV} {us:ae AV},dH ts us->Ff e ks ts x=af t->∃u,Ff e ks us x=af u/\GV t u
 |[],_,_=>λ aa h=>cm h
 |_::_,[],_=>λ aa h=>cm h
 |k::ks,t'::ts,_=>λ g h=>g.uc (Q:=λ us=>∃u,Ff e (k::ks) us x=af u/\GV t u) λ u us g gs=>condB h (λ e h=>⟨u,vC e,am h▸g⟩)
   λ e h=>(Au gs h).imp λ aa=> .imp_left (sR e).trans
theorem qh{u:AV}(g:GV t u):∀{ks:ae κ} {ts:ae TV} {us:ae AV},ks.length=ts.length->dH ts us->dH (jZ e ks ts x t) (jZ e ks us x u)
 |[],[],_=>λ aa h=>h.u0 (Q:=λ us=>dH [t] (jZ e [] us x u)) (.cons g rfl)
 |k::ks,t'::ts,_=>λ l h=>h.uc (Q:=λ us=>dH (jZ e (k::ks) (t'::ts) x t) (jZ e (k::ks) us x u)) λ w us a h=>by
  cases q:e k x with
  |true=>rw[oA q,oA q]; exact .cons g h
  |false=>rw[lx q,lx q]; exact .cons a (qh g (eL l) h)
 |[],_::_,_=>λ l=>bt l.symm (cy _)
 |_::_,[],_=>λ l=>bt l (cy _)
end
noncomputable def mj(t:TV):aq (Int×Int):=TV.rec (motive:=λ aa=>aq (Int×Int)) (λ v=>AV.rec (motive_1:=λ aa=>aq (Int×Int)) (motive_2:=λ aa=>e6) none none (λ aa=>none) (λ i=>af (i,i)) (λ aa=>none) (λ aa=>none) (λ aa=>none) (λ aa=>none) (λ aa=>none) (λ aa=>none) (λ aa aa=>none) (λ aa aa=>none) (λ aa=>none) (λ aa aa aa aa=>none) none (λ aa aa aa=>none) (λ aa aa aa=>none) (λ aa aa aa=>none) () (λ aa aa aa aa=>()) v) (λ l u=>af (l,u)) none none (λ aa=>none) (λ aa aa aa aa=>none) (λ aa=>none) none (λ aa aa aa aa=>none) (λ aa l u=>af (l,u)) (λ aa=>none) t
theorem mj.u{t:TV}{q:Int×Int}{v:AV}{Q:AV->Prop}(e:mj t=af q)(g:GV t v)(k:∀i,q.1<=i->i<=q.2->Q (.int i)):Q v:=by
 rcases t with w|_|_|_|_|_|_|_|_|_|_
 ·rcases w with _|_|_|i|_|_|_|_|_|_|_|_|_|_|_|_|_|_
  all_goals first|exact cm e|exact(show v=_ from g)▸k i (am e▸dT i) (am e▸dT i)
 all_goals first|exact cm e|skip
 ·exact aD g λ i g=>g.1▸k i (am e▸g.2.1) (am e▸g.2.2)
 ·exact(eH g)▸k _ (am e▸(eH (gh g))) (am e▸(gh (gh g)))
noncomputable def tI(t:TV):aq {u:e6 // ∀v,GV t v->∃i,v= .int i}:=match t with
 | .ai=>af ⟨(),λ v g=>g⟩
 | .rg _ _=>af ⟨(),λ aa=>cR λ aa=>eH⟩
 | .nr v _ _=>af ⟨(),λ aa g=>⟨v,g.1⟩⟩
 | .ex (.int i)=>af ⟨(),λ v g=>⟨i,g⟩⟩
 |_=>none
noncomputable def SQ(q:Int×Int):TV:=aY (decide (q.1=q.2)) (.ex (.int q.1)) (.rg q.1 q.2)
theorem tX{q:Int×Int}{i:Int}(h0:q.1<=i)(h1:i<=q.2):GV (SQ q) (.int i):=by
 unfold SQ
 by_cases e:q.1=q.2
 ·exact(cz e)▸ah AV.int (e_ (e▸h1) h0)
 ·exact(dj e)▸⟨i,rfl,h0,h1⟩
theorem c2{α β γ:Type}{f:α->β->γ}{a a':α}{b b':β}(h:a=a')(k:b=b'):f a b=f a' b':=h▸k▸rfl
noncomputable def yW:ae AV->ae TV
 |v::r=> .ex v::yW r
 |[]=>[]
theorem lr:∀l:ae AV,dH (yW l) l
 |[]=>rfl
 |v::r=>⟨v,r,rfl,rfl,lr r⟩
noncomputable def dE{p:Prop}{β:Type}:fF p->(p->aq β)->aq β
 | .isTrue h,f=>f h
 | .isFalse _,_=>none
noncomputable def Vg(v:AV):aq {l:ae AV // v= .lst l}:=match v with
 | .lst l=>af ⟨l,rfl⟩
 |_=>none
abbrev IsV(t:TV)(v:AV):Prop:=∀x,GV t x->x=v
abbrev W7(t:ae TV)(v:ae AV):Prop:=∀x,dH t x->x=v
noncomputable def toAV:(t:TV)->aq {v:AV // IsV t v}
 | .ex v=>af ⟨v,λ aa g=>g⟩
 | .tp a b=>ob (toAV a) λ x=>ob (toAV b) λ y=>af ⟨.tup [x.1,y.1],λ aa g=>aD g λ aa g=>g.elim λ aa g=>g.1.trans (c2 (f:=λ x y=>AV.tup [x,y]) (x.2 _ g.2.1) (y.2 _ g.2.2))⟩
 | .ln=>af ⟨.lst [],λ aa g=>g⟩
 | .lc h t=>ob (toAV h) λ y=>ob (toAV t) λ ys=>ob (Vg ys.1) λ l=>af ⟨.lst (y.1::l.1),λ aa g=>aD g λ aa g=>g.elim λ aa g=>g.1.trans (c2 (f:=λ x y=>AV.lst (x::y)) (y.2 _ g.2.1) (AV.lst.inj ((ys.2 _ g.2.2).trans l.2)))⟩
 | .nr v _ _=>af ⟨.int v,λ aa g=>g.1⟩
 | .rg l u=>dE (nY l u) λ h=>af ⟨.int l,λ aa g=>aD g λ i g=>g.1.trans (ah _ (e_ (h▸g.2.2) g.2.1))⟩
 |_=>none
noncomputable def toAVs:(t:ae TV)->aq {v:ae AV // W7 t v}
 |[]=>af ⟨[],λ aa g=>g⟩
 |t::r=>ob (toAV t) λ x=>ob (toAVs r) λ y=>af ⟨x.1::y.1,λ aa g=>g.uc (Q:=λ z=>z=x.1::y.1) λ aa aa g1 g2=>c2 (x.2 _ g1) (y.2 _ g2)⟩
noncomputable def toIs:(q:ae (Int×Int))->aq {v:ae Int // ∀x,rb q x->x=v}
 |[]=>af ⟨[],λ aa g=>g⟩
 |t::r=>dE (nY t.1 t.2) λ h=>ob (toIs r) λ y=>af ⟨t.1::y.1,λ aa g=>g.uc (Q:=λ z=>z=t.1::y.1) λ aa aa g0 g1 g2=>c2 (e_ (h▸g1) g0) (y.2 _ g2)⟩
theorem isU{vs:ae TV}(x:{v:ae AV // W7 vs v}){f:ae AV->AO}{a:AO}(h:∃us,a=f us/\dH vs us):a=f x.1:=h.elim λ aa h=>h.1.trans (ah f (x.2 _ h.2))
def toAO(o:TO):aq {a:AO // ∀m x,GO m o x->x=a}:=match o with
 | .ns ks vs=>ob (toAVs vs) λ x=>af ⟨.ns ks x.1,λ aa aa=>isU x⟩
 | .inst C j=>af ⟨.inst C j,λ aa aa g=>g⟩
 | .lst vs=>ob (toAVs vs) λ x=>af ⟨.lst x.1,λ aa aa=>isU x⟩
 | .il q=>ob (toIs q) λ x=>af ⟨.il x.1,λ aa aa g=>aD g λ aa g=>g.1.trans (ah _ (x.2 _ g.2))⟩
 | .iO ks vs=>ob (toAVs vs) λ x=>af ⟨.iO ks x.1,λ aa aa=>isU x⟩
 | .bG ks vs=>ob (toAVs vs) λ x=>af ⟨.bG ks x.1,λ aa aa=>isU x⟩
 | .ix r=>af ⟨.il r,λ aa aa g=>g⟩
 |_=>none
abbrev J7(t:ae TO)(m:ae AO):Prop:=∀mm m',m'.length=t.length->(∀i o,gW t i=af o->∃o',bM m' i=af o'/\GO mm o o')->m'=m
theorem J7.cons{t:TO}{r:ae TO}{a:AO}{m:ae AO}(x:∀m x,GO m t x->x=a)(y:J7 r m):J7 (t::r) (a::m):=by
 rintro mm (_|⟨b,m'⟩) l h
 ·exact bt l.symm (cy _)
 ·exact(h 0 t rfl).elim λ o g=>c2 ((am g.1).trans (x _ _ g.2)) (y mm m' (eL l) λ i=>h (i+1))
noncomputable def toAOs:(t:ae TO)->aq {m:ae AO // J7 t m}
 |[]=>af ⟨[],λ aa m' l aa=>cZ.mp l⟩
 |t::r=>ob (toAO t) λ x=>ob (toAOs r) λ y=>af ⟨x.1::y.1,J7.cons x.2 y.2⟩
theorem St.eq{a b:St}(h:a.loc=b.loc)(k:a.mem=b.mem):a=b:=by rcases a; rcases b; exact c2 h k
def toSt(s:AS):aq {σ:St // ∀x,GS s x->x=σ}:=ob (toAVs s.loc) λ l=>ob (toAOs s.mem) λ m=>af ⟨⟨l.1,m.1⟩,λ x g=>St.eq (l.2 _ g.loc) (m.2 x.mem x.mem g.mem.len.symm g.mem.get)⟩
def ac5(a:AO):aq {o:TO // mq o=none/\∀m,GO m o a}:=match a with
 | .ns ks vs=>af ⟨.ns ks (yW vs),rfl,λ aa=>⟨vs,rfl,lr vs⟩⟩
 | .inst C j=>af ⟨.inst C j,rfl,λ aa=>rfl⟩
 | .lst vs=>af ⟨.lst (yW vs),rfl,λ aa=>⟨vs,rfl,lr vs⟩⟩
 | .iO ks vs=>af ⟨.iO ks (yW vs),rfl,λ aa=>⟨vs,rfl,lr vs⟩⟩
 | .bG ks vs=>af ⟨.bG ks (yW vs),rfl,λ aa=>⟨vs,rfl,lr vs⟩⟩
 | .il r=>af ⟨.ix r,rfl,λ aa=>rfl⟩
 | .ba _=>none
 | .tab=>none
abbrev It(t:ae TO)(m:ae AO):Prop:=t.length=m.length/\∀i o,gW t i=af o->mq o=none/\∃a,bM m i=af a/\∀mm,GO mm o a
theorem It.cons{t:TO}{r:ae TO}{a:AO}{m:ae AO}(x:mq t=none/\∀m,GO m t a)(y:It r m):It (t::r) (a::m):=by
 refine⟨ah (·+1) y.1,?_⟩
 rintro (_|i) o h
 ·exact am h▸⟨x.1,a,rfl,x.2⟩
 ·exact y.2 i o h
noncomputable def MI:(m:ae AO)->aq {t:ae TO // It t m}
 |[]=>af ⟨[],rfl,λ aa aa=>cm⟩
 |a::r=>ob (ac5 a) λ x=>ob (MI r) λ y=>af ⟨x.1::y.1,It.cons x.2 y.2⟩
theorem Dc{m:ae AO}{t:ae TO}(h:It t m):GM t m:=
 ⟨h.1,λ i o e=>(h.2 i o e).2.imp λ aa=> .imp_right (· m),λ i o q e hq=>cm ((h.2 i o e).1.symm.trans hq)⟩
def Zk(σ:St):aq {s:AS // GS s σ}:=ob (MI σ.mem) λ t=>af ⟨⟨yW σ.loc,t.1⟩,lr σ.loc,Dc t.2⟩
noncomputable abbrev tF(R:(AV->St->Prop)->Prop)(r:AV×St):Prop:=∀K:AV->St->Prop,K r.1 r.2->R K
def exO{R:(AV->St->Prop)->Prop}(x:aq {r:AV×St // tF R r}):aq (ae (TV×AS)):=ob x λ r=>ob (Zk r.1.2) λ s=>af [(.ex r.1.1,s.1)]
theorem Lf{R:(AV->St->Prop)->Prop}{x:aq {r:AV×St // tF R r}}{outs:ae (TV×AS)}(h:exO x=af outs):D2 R GV outs:=
 ob.u h λ r aa h=>ob.u h λ s aa h=>D2.one h rfl s.2 r.2
def XY{l5:AV->St->(AV->St->Prop)->Prop}(g:(a:AV)->(σ:St)->aq {r:AV×St // tF (l5 a σ) r})(t:TV)(s:AS):aq (ae (TV×AS)):=ob (toAV t) λ a=>ob (toSt s) λ σ=>exO (g a.1 σ.1)
theorem Aa{l5:AV->St->(AV->St->Prop)->Prop}{g:(a:AV)->(σ:St)->aq {r:AV×St // tF (l5 a σ) r}}:∀t s outs a σ,XY g t s=af outs->GV t a->GS s σ->D2 (l5 a σ) GV outs:=λ aa aa aa aa aa h ga gs=>
 ob.u h λ a' aa h=>ob.u h λ b8 aa h=>(a'.2 _ ga).symm▸(b8.2 _ gs).symm▸Lf h
def ex2{l5:AV->AV->St->(AV->St->Prop)->Prop}(g:(a b:AV)->(σ:St)->aq {r:AV×St // tF (l5 a b σ) r})(t u:TV)(s:AS):aq (ae (TV×AS)):=ob (toAV t) λ a=>ob (toAV u) λ b=>ob (toSt s) λ σ=>exO (g a.1 b.1 σ.1)
theorem Ul{l5:AV->AV->St->(AV->St->Prop)->Prop}{g:(a b:AV)->(σ:St)->aq {r:AV×St // tF (l5 a b σ) r}}:∀t u s outs a b σ,ex2 g t u s=af outs->GV t a->GV u b->GS s σ->D2 (l5 a b σ) GV outs:=λ aa aa aa aa aa aa aa h ga gb gs=>
 ob.u h λ a' aa h=>ob.u h λ b' aa h=>ob.u h λ b8 aa h=>(a'.2 _ ga).symm▸(b'.2 _ gb).symm▸(b8.2 _ gs).symm▸Lf h
noncomputable def mG(A:bn)(d:Nat):Prop:=A.depth+3 * d < 990/\A.units+12 * d < 9800/\A.handled=none
theorem mG.less{A:bn}{d e:Nat}(h:mG A d)(le:e<=d):mG A e:=⟨aU (hN (jG 3 le) _) h.1,aU (hN (jG 12 le) _) h.2.1,h.2.2⟩
noncomputable def tE(K:eJ)(C:au)(x:bI):aC:=
 plainGet K C x&&hasDictIn K C&&(match findIn K (.ref C) x with|some a=>noGet K a|none=>false)&&
 (findIn K (.ref C) "__setattr__"==af (af (.builtin "object.__setattr__")))&&plainOver K C&&(takerIn K C x==af none)
noncomputable def x5(K:eJ)(C fi:au):aC:=makesIn K C&&(findIn K (.ref C) "__init__"==af (af (.ref fi)))&&(typeIn K (.ref fi)==af (.type "function"))&&keepIn K (.ref C)
noncomputable def nM(K:eJ)(C:au)(x:bI)(g:au):aC:=plainGet K C x&&(findIn K (.ref C) x==af (af (.ref g)))&&(typeIn K (.ref g)==af (.type "function"))&&fnIn K g
theorem aF{a b:aC}(h:(a&&b)=true):a=true/\b=true:=bN.mp h
noncomputable def kE(e:aB):Nat:=match e with
 | .Slice .. =>1
 | .ListComp .. =>2
 | .SetComp .. =>2
 | .DictComp .. =>2
 | .Set .. =>3
 | .UnaryOp .. =>4
 | .BoolOp .. =>4
 | .IfExp .. =>4
 | .Compare .. =>4
 | .Call .. =>5
 | .Name .. =>6
 |_=>0
noncomputable def vG(n:Nat)(e:aB):aC:=!aT (kE e) n
noncomputable def isNm(e:aB):aC:=aT (kE e) 6
theorem HN{i:aB}(h:vG 1 i=true):(∀o v,subscripted i false o v=D6 [o,v] (getItem o v))/\∀ov iv new,augStore i ov iv new=(do holding [new,ov,iv] (eV ov iv new); release [new,ov,iv] []; pure .next):=by
 cases i
 case Slice=>exact ay h
 all_goals exact⟨λ aa aa=>rfl,λ aa aa aa=>rfl⟩
theorem HT{e:aB}(h:vG 2 e=true){t:aq aB}{l:Nat}{env:Env}:oH e t l env=pure false:=by
 cases e
 case ListComp=>exact ay h
 case SetComp=>exact ay h
 case DictComp=>exact ay h
 all_goals rfl
theorem xt{e:aB}(h:vG 3 e=true):(∀env x,eh e env x=pure x)/\∀op,pQ op e=false:=by
 cases e
 case Set=>exact ay h
 all_goals exact⟨λ aa aa=>rfl,λ aa=>rfl⟩
theorem aab{e:aB}(h:vG 4 e=true){env:Env}{whole:im ak}:isTrue e env whole=(do let v ← whole; dp e.pos; holding [v] (truthy v)):=by
 cases e
 case UnaryOp=>exact ay h
 case BoolOp=>exact ay h
 case IfExp=>exact ay h
 case Compare=>exact ay h
 all_goals rfl
theorem R_{e:aB}(h:vG 5 e=true)(x:bI)(env:Env)(whole:im ak):attributeBase e x env whole=whole:=by
 cases e
 case Call=>exact ay h
 all_goals rfl
theorem wX{e:aB}(h:isNm e=true):∃x q,e= .Name x q:=by
 cases e
 case Name=>exact⟨_,_,rfl⟩
 all_goals exact ay h
theorem mc_eq{o:aB}{args:ae (aC×im ak)}{ap p:c9}{n:Nat}(hp:(ap.endLine==p.line)=true)(hf:methodCallForm n args []=true)(x:bI)(env:Env)(ov:ak):methodCall o x ap p env ov n args []=(do
   let (f,first) ← holding [ov] (fJ ov x (do return (← importBound o env).getD true))
   callWith p f first args []):=by
 unfold methodCall
 rw[hf,show methodCallPos true o env ap p=pure p from dq hp]
 rfl
noncomputable abbrev Qs(o:aB)(as:ae aB)(ap p:c9)(x:bI)(env:Env):Prop:=∃pl,eval (.Call (.Attribute o x ap) as [] p) env=(do
   let ov ← eval o env
   dp ap.atName
   let (f,first) ← holding [ov] (fJ ov x pl)
   callWith p f first (backTo p (fD as env)) [])
noncomputable def mtB(o:aB)(as:ae aB)(ap p:c9):aC:=vG 5 o&&(ap.endLine==p.line&&eK as.length 30)
theorem Hk{o:aB}{as:ae aB}{ap p:c9}(h:mtB o as ap p=true)(x:bI)(env:Env)(ha:(backTo p (fD as env)).any (·.1)=false):Qs o as ap p x env:=by
 have h:=bN.mp h
 have h2:=bN.mp h.2
 have hf:methodCallForm as.length (backTo p (fD as env)) []=true:=bN.mpr ⟨bN.mpr ⟨(List.not_any_eq_all_not ..).symm.trans (ah Bool.not ha),rfl⟩,cz (aQ h2.2)⟩
 refine⟨(do return (← importBound o env).getD true:im aC),Eq.trans (b:=do
  let ov ← attributeBase o x env (eval o env)
  dp ap.atName
  methodCall o x ap p env ov as.length (backTo p (fD as env)) []) rfl ?_⟩
 rw[R_ h.1]
 exact ah (eval o env>>=·) (funext λ ov=>ah (λ m=>dp ap.atName>>=λ aa=>m) (mc_eq h2.1 hf x env ov))
structure cC where
 prog:aK
 w:bw
 K:eJ
 gl:ae (bI×AV)
 at_:au->Nat->aC
 Φ:BM->Prop
 d:Nat
 j:aC
 mono:∀G G',dG G G'->Φ G->Φ G'
 base:∀G,Φ G->∃B p loose mg mb,K.In B/\n8 p loose mg mb B/\∀a o,B.get? a=af o->G a=af o
 glob:∀G x v ρ,Φ G->gl.lookup x=af v->∃u,nsIn K dk x=af (af u)/\VR G ρ v u
 attr:∀C x,at_ C x=true->x < NM/\tE K C (nm x)=true
 Jx:∀G,Φ G->∃o,G di=af o
 blt:ae bI
 yJ:∀x,blt.contains x=true->nsIn K dk x=af none/\x≠"__name__"
 init:au->aq au
 E4:∀C fi,init C=af fi->x5 K C fi=true
 tV:au->Nat->aq au
 Fk:∀C x g,tV C x=af g->x < NM/\nM K C (nm x) g=true
 cB:au->ae TV->ae TO->aq (ae (TV×ae TO))
noncomputable def cC.up(P:cC):cC:={P with d:=P.d+1}
noncomputable def cC.dn(P:cC):cC:={P with d:=P.d - 1}
structure Ct where
 names:ae (bI×dJ)
 aS:ae bI
 ro:aC:=false
 tb:aC:=false
 cq:aC:=false
noncomputable def wq:au:=681
noncomputable def dM:au:=677
noncomputable def U6:bI:=bT "scan_conditioning"++".<locals>."
noncomputable def pa{α:Type}(o:aq α)(p:α->aC):aC:=match o with
 |some x=>p x
 |none=>false
theorem ge{α:Type}{o:aq α}{p:α->aC}{Q:Prop}(h:pa o p=true)(k:∀x,o=af x->p x=true->Q):Q:=by
 rcases o with _|x
 ·exact ay h
 ·exact k x rfl h
noncomputable def iVB(i:Int)(v:ak):aC:=match v with
 | .int j _=>decide (i=j)
 |_=>false
theorem LS{i:Int}{v:ak}(h:iVB i v=true):∃t,v= .int i t:=by
 rcases v with _|_|_|_|⟨j,t⟩|_|_|_|_|_|_
 case int=>exact⟨t,ah (eD · t) (bg h).symm⟩
 all_goals exact ay h
noncomputable def xb(v:ak)(p:au->aC):aC:=match v with
 | .ref a=>p a
 |_=>false
theorem lE{v:ak}{p:au->aC}(h:xb v p=true):∃a,v= .ref a/\p a=true:=by
 rcases v with _|_|_|_|_|_|_|_|_|_|a
 case ref=>exact⟨a,rfl,h⟩
 all_goals exact ay h
noncomputable def tyB(v:ak)(n:cQ):aC:=match v with
 | .type t=>t==n
 |_=>false
theorem FV{v:ak}{n:cQ}(h:tyB v n=true):v= .type n:=by
 rcases v with _|_|_|_|_|_|_|_|t|_|_
 case type=>exact ah cS (a_.mp h)
 all_goals exact ay h
noncomputable def No(o:Obj)(p:ae ak->aC):aC:=match o.data with
 | .seq vs _=>p vs.toList
 |_=>false
theorem AM{o:Obj}{p:ae ak->aC}(h:No o p=true):∃vs n,o.data= .seq vs n/\p vs.toList=true:=by
 obtain⟨c,d,dt,sl⟩:=o
 cases dt
 case seq vs n=>exact⟨vs,n,rfl,h⟩
 all_goals exact ay h
noncomputable def plB(d:Data):aC:=match d with
 | .plain=>true
 |_=>false
theorem Vy{d:Data}(h:plB d=true):d= .plain:=by
 cases d
 case plain=>rfl
 all_goals exact ay h
noncomputable def X9(o:Obj)(p:bD ak->aC):aC:=match o.data with
 | .fields vs=>p vs
 |_=>false
theorem PM{o:Obj}{p:bD ak->aC}{Q:Prop}(h:X9 o p=true)(k:∀vs,o.data= .fields vs->p vs=true->Q):Q:=by
 obtain⟨c,d,dt,sl⟩:=o
 cases dt
 case fields vs=>exact k vs rfl h
 all_goals exact ay h
noncomputable def ZZ(v:ak):aC:=match v with
 | .str _ _=>true
 |_=>false
noncomputable def UU(v:ak):aC:=match v with
 | .int _ _=>true
 |_=>false
noncomputable def XD(v:ak):aC:=match v with
 | .bool _=>true
 |_=>false
def bmB(K:eJ):aC:=pa (nsIn K dk "__builtins__") λ r=>pa r λ v=>xb v λ bm=>pa (K.lookup bm) λ o=>tyB o.cls "module"&&(pa o.dict (aT · li)&&(plB o.data&&(!aT bm li&&(!aT bm dk&&!aT bm dM))))
def kJ(K:eJ):aC:=bmB K&&pa (K.lookup wq) λ o=>tyB o.cls "code"&&X9 o λ vs=>pa (vs[11]?:aq ak) λ v=>xb v (aT · dM)&&(ZZ (vs.getD 18 .none)&&(UU (vs.getD 7 .none)&&(XD (vs.getD 9 .none)&&UU (vs.getD 10 .none))))
noncomputable def GK(g g':bD d7):Prop:=(∀(i:Nat) (x:d7),g[i]?=af x->g'[i]?=af x)/\(AllBare g->AllBare g')
theorem GK.trans{a b c:bD d7}(x:GK a b)(y:GK b c):GK a c:=⟨λ i v e=>y.1 i v (x.1 i v e),λ h=>y.2 (x.2 h)⟩
def GZ(s s':ar):Prop:=GK s.gens s'.gens/\s'.os=s.os
theorem GZ.of{s s':ar}(z:s'.gens=s.gens/\s'.gens=s.gens/\s'.os=s.os):GZ s s':=⟨by rw[z.1]; exact⟨λ aa aa e=>e,id⟩,z.2.2⟩
theorem GZ.trans{a b c:ar}(x:GZ a b)(y:GZ b c):GZ a c:=⟨x.1.trans y.1,y.2.trans x.2⟩
inductive WQ(G:BM)(ρ:ae au)(s:ar)(K:AV->ae AO->Prop)(v:ak)(s':ar):Prop
 |mk (G':BM) (ρ':ae au) (av:AV) (mem':ae AO) (h:dG G G'/\Ext ρ ρ'/\RM G' ρ' mem' s'.heap/\VR G' ρ' av v/\K av mem') (kp:∀a o,a∉ρ->s.heap.get? a=af o->s'.heap.get? a=af o)
  (nw:∀a∈ρ',a∈ρ\/s.heap.get? a=none) (gf:∀a o,G' a=af o->G a=af o\/s.heap.get? a=none) (gz:GZ s s')
def Ht(Q:ak->ar->Prop)(r:iT)(s':ar):Prop:=match r with | .ok (.ret v)=>Q v s'|_=>False
structure WC(P:cC)(f:au)(dx:ae AV)(mem:ae AO)(K:AV->ae AO->Prop):Prop where
 run:∀(A:bn) (G:BM) (ρ:ae au) (s:ar) (vs:ae ak),mG A P.d->P.Φ G->RM G ρ mem s.heap->bJ G ρ dx vs->
  dP P.j (aE P.prog P.w) A (.call (.ref f) ⟨vs,[]⟩) (Ht (WQ G ρ s K)) s
def DW(P:cC)(f:au)(vs:ae AV)(m:ae AO)(outs:ae (TV×ae TO)):Prop:=∃v m',(∃o∈outs,GV o.1 v/\GM o.2 m')/\WC P f vs m λ v' Vi=>v'=v/\Vi=m'
def l8(P:cC):Prop:=∀f ts tm outs,P.cB f ts tm=af outs->∀vs m,dH ts vs->GM tm m->DW P.dn f vs m outs
structure Fd where
 A:bn
 env:Env
 h₀:Heap
 gL:ae au
 G₀:BM
 Z:ar
 ro:aC
noncomputable def At(env:Env)(h:Heap)(x:bI)(u:ak):Prop:=
 (env.kindOf x=af .local/\∃m,h.Ns env.locals m/\m x=af u)\/
 ((env.kindOf x=af .cell\/env.kindOf x=af .free)/\∃c,env.cells.lookup x=af c/\h.IsCell c (af u))
theorem At.keeps{env:Env}{h h':Heap}{x:bI}{u:ak}(a:At env h x u)(kL:∀o,h.get? env.locals=af o->h'.get? env.locals=af o)
  (kc:∀y c o,env.cells.lookup y=af c->h.get? c=af o->h'.get? c=af o):At env h' x u:=
 a.imp (.imp_right<| .imp λ aa=> .imp_left<| .imp λ aa=> .imp λ aa=> .imp λ aa=> .imp_left (kL _))
  (.imp_right<| .imp λ c k=>⟨k.1,k.2.imp λ o=> .imp_left (kc x c o k.1)⟩)
noncomputable def Fd.free(F:Fd)(a:au):Prop:=a≠F.env.locals/\(F.ro=false->∀x,F.env.kindOf x=af .cell->F.env.cells.lookup x≠af a)
structure gO(P:cC)(ct:Ct)(F:Fd):Prop where
 kind:F.env.scope.kind= .function
 names:F.env.scope.names=ct.names
 glob:F.env.globals=dk
 blt:F.env.builtins=li
 room:mG F.A P.d
 ja:P.Φ F.G₀
 vH:ct.aS.Nodup
 ro:F.ro=ct.ro
 cells:∀x,ct.names.lookup x=af .cell->∃c,F.env.cells.lookup x=af c
 tb:ct.tb=true->F.gL[0]?=af dM
 cq:ct.cq=true->F.env.code= .ref wq/\F.env.qual=U6/\kJ P.K=true
structure RF(F:Fd)(aS:ae bI)(G:BM)(ρ:ae au)(σ:St)(s:ar):Prop where
 rm:RM G ρ σ.mem s.heap
 ns:∃m,s.heap.Ns F.env.locals m
 loc:∀(i:Nat) (x:bI) (v:AV),aS[i]?=af x->σ.loc[i]?=af v->v≠ .undef->∃u,VR G ρ v u/\At F.env s.heap x u
 lG:G F.env.locals=none
 Bq:F.env.locals∉ρ
 cell:∀x c,F.env.cells.lookup x=af c->c≠F.env.locals/\c∉ρ/\(∃v,s.heap.IsCell c v)/\(F.env.kindOf x=af .cell->G c=none)
 p9:∀x y c,F.env.cells.lookup x=af c->F.env.cells.lookup y=af c->x=y
 keep:∀a o,a∉F.gL->F.free a->F.h₀.get? a=af o->s.heap.get? a=af o
 live:∀a o,F.h₀.get? a=af o->∃o',s.heap.get? a=af o'
 ext:Ext F.gL ρ
 nw:∀a∈ρ,a∈F.gL\/F.h₀.get? a=none
 Cy:dG F.G₀ G
 Bp:∀a o,G a=af o->F.G₀ a=af o\/F.h₀.get? a=none
 gz:GZ F.Z s
section
variable{F:Fd}{aS:ae bI}{G G':BM}{ρ ρ':ae au}{σ:St}{s s':ar}
theorem RF.lo(R:RF F aS G ρ σ s):∃o,s.heap.get? F.env.locals=af o:=R.ns.elim λ aa h=>h.imp λ aa h=>h.elim λ aa h=>h.elim λ aa h=>h.1
theorem RF.co(R:RF F aS G ρ σ s){x:bI}{c:au}(e:F.env.cells.lookup x=af c):∃o,s.heap.get? c=af o:=(R.cell x c e).2.2.1.elim λ aa h=>h.imp λ aa=>eH
theorem RF.dead(R:RF F aS G ρ σ s){a:au}(h:s.heap.get? a=none):F.h₀.get? a=none:=none_of λ o e=>(R.live a o e).elim λ aa=>dh h
theorem RF.HO(R:RF F aS G ρ σ s){mem':ae AO}(x:Ext ρ ρ')(g:dG G G')(M:RM G' ρ' mem' s'.heap)
  (nw:∀a∈ρ',a∈ρ\/s.heap.get? a= .none) (gn:∀a o,G' a=af o->G a=af o\/s.heap.get? a= .none)
  (kp:∀a o,a∉ρ->s.heap.get? a=af o->s'.heap.get? a=af o) (z:GZ s s'):RF F aS G' ρ' ⟨σ.loc,mem'⟩ s':=
 have kc:∀y c o,F.env.cells.lookup y=af c->s.heap.get? c=af o->s'.heap.get? c=af o:=λ y c o e q=>kp c o (R.cell y c e).2.1 q
 have Cz:∀a,G a=none->(∃o,s.heap.get? a=af o)->G' a=none:=λ a n y=>none_of λ o q=>(gn _ _ q).elim (dh n) λ q=>y.elim λ aa=>dh q
 have SY:∀a,a∉ρ->(∃o,s.heap.get? a=af o)->a∉ρ':=λ a n y hm=>(nw _ hm).elim n λ q=>y.elim λ aa=>dh q
 {rm:=M
  ns:=R.ns.imp λ aa=> .imp λ aa=> .imp λ aa=> .imp λ aa=> .imp_left (kp _ _ R.Bq)
  loc:=λ i x' v e e' n=>(R.loc i x' v e e' n).imp λ aa=> .imp (VR.up g x v) (At.keeps · (λ o e=>kp _ o R.Bq e) kc)
  lG:=Cz _ R.lG R.lo
  Bq:=SY _ R.Bq R.lo
  cell:=λ x' c e=>have h:=R.cell x' c e; ⟨h.1,SY c h.2.1 (R.co e),h.2.2.1.imp λ aa=> .imp λ o=> .imp_left (kc x' c o e),λ k=>Cz c (h.2.2.2 k) (R.co e)⟩
  p9:=R.p9
  keep:=λ a o n f e=>kp a o (λ hm=>(R.nw a hm).elim n λ q=>dh q e) (R.keep a o n f e)
  live:=λ a o e=>(R.live a o e).elim λ o' e'=>(d5 (a∈ρ)).elim (λ n=>M.some_of (x.mem n)) λ n=>⟨o',kp a o' n e'⟩
  ext:=R.ext.trans x
  nw:=λ a ha=>(nw a ha).elim (R.nw a) λ q=> .inr (R.dead q)
  Cy:=R.Cy.trans g
  Bp:=λ a o e=>(gn a o e).elim (R.Bp a o) λ q=> .inr (R.dead q)
  gz:=R.gz.trans z}
theorem RF.step(R:RF F aS G ρ σ s){mem':ae AO}(x:Ext ρ ρ')(g:dG G G')(M:RM G' ρ' mem' s'.heap)
  (nw:∀a∈ρ',a∈ρ\/s.heap.get? a= .none) (gn:∀a o,G' a=af o->G a=af o\/s.heap.get? a= .none)
  (kp:∀a o,a∉ρ->s.heap.get? a=af o->s'.heap.get? a=af o) (z:s'.gens=s.gens/\s'.gens=s.gens/\s'.os=s.os):RF F aS G' ρ' ⟨σ.loc,mem'⟩ s':=R.HO x g M nw gn kp (GZ.of z)
theorem RF.toks(R:RF F aS G ρ σ s)(t:Nat):RF F aS G ρ σ {s with toks:=t}:=
 ⟨R.rm,R.ns,R.loc,R.lG,R.Bq,R.cell,R.p9,R.keep,R.live,R.ext,R.nw,R.Cy,R.Bp,R.gz⟩
theorem RF.grow(R:RF F aS G ρ σ s)(k:∀a o,s.heap.get? a=af o->s'.heap.get? a=af o)(z:s'.gens=s.gens/\s'.gens=s.gens/\s'.os=s.os):RF F aS G ρ σ s':=
 R.step (Ext.refl ρ) (dG.refl _) (R.rm.keeps k) (λ aa h=> .inl h) (λ aa aa e=> .inl e) (λ a o aa e=>k a o e) z
theorem RF.turn(R:RF F aS G ρ σ s){i:Nat}{a:au}{wf:AO}{o':Obj}(hi:ρ[i]?=af a)(he:s'.heap.get? a=af o')(q:OR G ρ wf o')
  (k:∀b o,b≠a->s.heap.get? b=af o->s'.heap.get? b=af o) (z:s'.gens=s.gens/\s'.gens=s.gens/\s'.os=s.os):RF F aS G ρ ⟨σ.loc,σ.mem.set i wf⟩ s':=
 R.step (Ext.refl ρ) (dG.refl _) (R.rm.turn hi he q k) (λ aa h=> .inl h) (λ aa aa e=> .inl e) (λ b o n e=>k b o (λ z=>n (z▸iq hi)) e) z
theorem RF.new(R:RF F aS G ρ σ s){a:au}{ao:AO}{o:Obj}(ha:s.heap.get? a= .none)(he:s'.heap.get? a=af o)(q:OR G (ρ++[a]) ao o)
  (k:∀b o,s.heap.get? b=af o->s'.heap.get? b=af o) (z:s'.gens=s.gens/\s'.gens=s.gens/\s'.os=s.os):RF F aS G (ρ++[a]) ⟨σ.loc,σ.mem++[ao]⟩ s':=
 R.step (Ext.snoc ρ a) (dG.refl _) (R.rm.new ha he q k) (λ b hb=>(fS.mp hb).imp_right λ hb=>(be.mp hb:b=a)▸ha) (λ aa aa e=> .inl e) (λ b o aa e=>k b o e) z
theorem RF.freeze(R:RF F aS G ρ σ s){a:au}{o:Obj}(ha:s.heap.get? a= .none)(he:s'.heap.get? a=af o)
  (k:∀b o,s.heap.get? b=af o->s'.heap.get? b=af o) (z:s'.gens=s.gens/\s'.gens=s.gens/\s'.os=s.os):RF F aS (G.with a o) ρ σ s'/\dG G (G.with a o):=by
 have q:=R.rm.freeze ha he k
 exact⟨R.step (Ext.refl ρ) q.2 q.1 (λ aa h=> .inl h) (λ b o' e=>BM.Hs e (λ z aa=> .inr (z▸ha)) .inl) (λ b o aa e=>k b o e) z,q.2⟩
end
inductive PE(F:Fd)(aS:ae bI)(G:BM)(ρ:ae au)(Kv:AV->St->Prop)(v:ak)(s':ar):Prop
 |mk (G':BM) (ρ':ae au) (av:AV) (b8:St) (g:dG G G') (x:Ext ρ ρ') (R:RF F aS G' ρ' b8 s') (va:VR G' ρ' av v) (k:Kv av b8)
noncomputable abbrev dw:ak->ar->Prop:=λ aa aa=>False
inductive PB(F:Fd)(aS:ae bI)(G:BM)(ρ:ae au)(Kb:aC->St->Prop)(b:aC)(s':ar):Prop
 |mk (G':BM) (ρ':ae au) (b8:St) (g:dG G G') (x:Ext ρ ρ') (R:RF F aS G' ρ' b8 s') (k:Kb b b8)
inductive Fl where
 |d8|ret (v:AV)
def FR(G:BM)(ρ:ae au):Fl->mA->Prop
 | .d8,f=>f= .next
 | .ret av,f=>∃v,f= .ret v/\VR G ρ av v
inductive PF(F:Fd)(aS:ae bI)(G:BM)(ρ:ae au)(Kf:Fl->St->Prop)(f:mA)(s':ar):Prop
 |mk (G':BM) (ρ':ae au) (fl:Fl) (b8:St) (g:dG G G') (x:Ext ρ ρ') (R:RF F aS G' ρ' b8 s') (fr:FR G' ρ' fl f) (k:Kf fl b8)
inductive PL(F:Fd)(aS:ae bI)(G:BM)(ρ:ae au)(Kv:ae AV->St->Prop)(vs:ae ak)(s':ar):Prop
 |mk (G':BM) (ρ':ae au) (dx:ae AV) (b8:St) (g:dG G G') (x:Ext ρ ρ') (R:RF F aS G' ρ' b8 s') (va:bJ G' ρ' dx vs) (k:Kv dx b8)
section
variable{F:Fd}{aS:ae bI}{G G':BM}{ρ ρ':ae au}
theorem PE.u{Kv:AV->St->Prop}{v:ak}{s:ar}{Q:Prop}(z:PE F aS G ρ Kv v s)(k:∀G' ρ' av b8,dG G G'->Ext ρ ρ'->RF F aS G' ρ' b8 s->VR G' ρ' av v->Kv av b8->Q):Q:=PE.casesOn (motive:=λ aa=>Q) z k
theorem PB.u{Kv:aC->St->Prop}{v:aC}{s:ar}{Q:Prop}(z:PB F aS G ρ Kv v s)(k:∀G' ρ' b8,dG G G'->Ext ρ ρ'->RF F aS G' ρ' b8 s->Kv v b8->Q):Q:=PB.casesOn (motive:=λ aa=>Q) z k
theorem PF.u{Kv:Fl->St->Prop}{v:mA}{s:ar}{Q:Prop}(z:PF F aS G ρ Kv v s)(k:∀G' ρ' fl b8,dG G G'->Ext ρ ρ'->RF F aS G' ρ' b8 s->FR G' ρ' fl v->Kv fl b8->Q):Q:=PF.casesOn (motive:=λ aa=>Q) z k
theorem PL.u{Kv:ae AV->St->Prop}{v:ae ak}{s:ar}{Q:Prop}(z:PL F aS G ρ Kv v s)(k:∀G' ρ' av b8,dG G G'->Ext ρ ρ'->RF F aS G' ρ' b8 s->bJ G' ρ' av v->Kv av b8->Q):Q:=PL.casesOn (motive:=λ aa=>Q) z k
theorem PE.up{Kv:AV->St->Prop}{v:ak}{s:ar}(g:dG G G')(x:Ext ρ ρ')(h:PE F aS G' ρ' Kv v s):PE F aS G ρ Kv v s:=h.u λ a b c d e f=> .mk a b c d (g.trans e) (x.trans f)
theorem PB.up{Kv:aC->St->Prop}{v:aC}{s:ar}(g:dG G G')(x:Ext ρ ρ')(h:PB F aS G' ρ' Kv v s):PB F aS G ρ Kv v s:=h.u λ a b d e f=> .mk a b d (g.trans e) (x.trans f)
theorem PF.up{Kv:Fl->St->Prop}{v:mA}{s:ar}(g:dG G G')(x:Ext ρ ρ')(h:PF F aS G' ρ' Kv v s):PF F aS G ρ Kv v s:=h.u λ a b c d e f=> .mk a b c d (g.trans e) (x.trans f)
theorem PE.here{Kv:AV->St->Prop}{av:AV}{σ:St}{v:ak}{s:ar}(R:RF F aS G ρ σ s)(h:VR G ρ av v)(k:Kv av σ):PE F aS G ρ Kv v s:=⟨G,ρ,av,σ,dG.refl _,Ext.refl _,R,h,k⟩
end
inductive AF where
 |d8|ret (v:TV)
def GF:AF->Fl->Prop
 | .d8,f=>f= .d8
 | .ret t,f=>∃v,f= .ret v/\GV t v
structure SE(P:cC)(ct:Ct) where
 bA:aB
 run:St->(AV->St->Prop)->Prop
 ch:aC
 star:∀r env,fD (bA::r) env=(false,eval bA env)::fD r env
 ok:ch=true->∀F G ρ σ s Kv,gO P ct F->RF F ct.aS G ρ σ s->run σ Kv->cL P.j (aE P.prog P.w) F.A (eval bA F.env) (PE F ct.aS G ρ Kv) s
 ab:AS->aq (ae (TV×AS)):=λ aa=>none
 cO:l8 P->Ab ab run GV:=by nofun
structure ST(P:cC)(ct:Ct) where
 bA:aB
 run:St->(aC->St->Prop)->Prop
 ch:aC
 ok:ch=true->∀F G ρ σ s Kv,gO P ct F->RF F ct.aS G ρ σ s->run σ Kv->cL P.j (aE P.prog P.w) F.A (isTrue bA F.env (eval bA F.env)) (PB F ct.aS G ρ Kv) s
 ab:AS->aq (ae (aC×AS)):=λ aa=>none
 cO:l8 P->Ab ab run Eq:=by nofun
structure SX(P:cC)(ct:Ct) where
 bA:f5
 run:St->(Fl->St->Prop)->Prop
 ch:aC
 ok:ch=true->∀F G ρ σ s Kv,gO P ct F->RF F ct.aS G ρ σ s->run σ Kv->cL P.j (aE P.prog P.w) F.A (exec bA F.env) (PF F ct.aS G ρ Kv) s
 ab:AS->aq (ae (AF×AS)):=λ aa=>none
 cO:l8 P->Ab ab run GF:=by nofun
structure SS(P:cC)(ct:Ct) where
 bA:ae f5
 run:St->(Fl->St->Prop)->Prop
 ch:aC
 ok:ch=true->∀F G ρ σ s Kv,gO P ct F->RF F ct.aS G ρ σ s->run σ Kv->cL P.j (aE P.prog P.w) F.A (execs bA F.env) (PF F ct.aS G ρ Kv) s
 ab:AS->aq (ae (AF×AS)):=λ aa=>none
 cO:l8 P->Ab ab run GF:=by nofun
section
variable{P:cC}{ct:Ct}
noncomputable def yv(i:Int)(p:c9):SE P ct where
 bA:= .Constant (.int i) 0 p
 run:=λ σ K=>K (.int i) σ
 ch:=true
 star:=λ aa aa=>rfl
 ok:=λ aa F G ρ σ s Kv aa R h=>X.any<|wpAny_Constant_int (PE.here (R.toks _) VR.mH h)
 ab:=λ s=>af [(.ex (.int i),s)]
 cO:=λ aa s outs h σ gs=>D2.one h rfl gs λ aa k=>k
noncomputable def zD(k:Nat)(p:c9):SE P ct where
 bA:= .Constant .none k p
 run:=λ σ K=>K .none σ
 ch:=true
 star:=λ aa aa=>rfl
 ok:=λ aa F G ρ σ s Kv aa R h=>λ aa aa aa aa=>PE.here R VR.none_ h
 ab:=λ s=>af [(.ex .none,s)]
 cO:=λ aa s outs h σ gs=>D2.one h rfl gs λ aa k=>k
noncomputable def sNo(e:f5):SX P ct where
 bA:=e
 run:=λ aa aa=>False
 ch:=true
 ok:=λ aa F G ρ σ s Kv aa R h=>h.elim
noncomputable def Az(ct:Ct)(i:Nat)(x:bI):aC:=(ct.aS[i]?==af x)&&!(x==bT "__debug__")&&!(x==bT "__classdict__")
theorem nb:∀{b:aC},(!b)=true->b=false
 |false=>λ aa=>rfl
 |true=>λ h=>ay h
theorem zc{ct:Ct}{i:Nat}{x:bI}(c:Az ct i x=true):ct.aS[i]?=af x/\(x==bT "__debug__")=false/\(x==bT "__classdict__")=false:=
 ⟨a_.mp (aF (aF c).1).1,nb (aF (aF c).1).2,nb (aF c).2⟩
def fE(l:ae AV):Nat->AV:=Xq id .undef l
theorem qB:∀(l:ae AV) (i:Nat) (v:AV),fE l i=v->v≠ .undef->l[i]?=af v
 |[],i,v,h,n=>bt h.symm n
 |u::_,0,v,h,_=>ah af h
 |_::r,i+1,v,h,n=>qB r i v h n
def ldK(v:AV)(σ:St)(K:AV->St->Prop):Prop:=match v with
 | .undef=>False
 |v=>K v σ
theorem Vc{v:AV}{σ:St}{K:AV->St->Prop}(h:ldK v σ K):v≠ .undef/\K v σ:=
 have n:v≠ .undef:=λ e=>by rw[e] at h; exact h
 ⟨n,by rcases v with _|_|_|_|_|_|_|_|_|_|_|_|_|_|_|_|_|_; exact(n rfl).elim; all_goals exact h⟩
theorem Qo{F:Fd}{s:ar}{x:bI}{u:ak}{M:iy}{Q:ak->ar->Prop}(hk:F.env.scope.kind= .function)(a:At F.env s.heap x u)(h:Q u s)(hn:(x==bT "__classdict__")=false):
  aH M F.A (loadName F.env x) Q dw s:=by
 rcases a with⟨k,m,hm,e⟩|⟨k|k,c,hc,hv⟩
 ·exact wpAny_loadName_local hk k hm e h
 ·exact wpAny_loadName_cell hk k hc hv h
 ·exact wpAny_loadName_free hk k hc hv h hn
theorem CZ{F:Fd}{G:BM}{ρ:ae au}{σ:St}{s:ar}{M:iy}{i:Nat}{x:bI}{Kv:AV->St->Prop}(O:gO P ct F)(R:RF F ct.aS G ρ σ s)(c:Az ct i x=true)(h:ldK (fE σ.loc i) σ Kv):
  aH M F.A (loadName F.env x) (PE F ct.aS G ρ Kv) dw s:=by
 have c:=zc c
 have h:=Vc h
 exact(R.loc i x _ c.1 (qB _ _ _ rfl h.1) h.1).elim λ u q=>Qo O.kind q.2 (PE.here R q.1 h.2) c.2.2
def RG(l:ae TV):Nat->aq TV:=Xq af none l
theorem t8:∀{ts:ae TV} {us:ae AV} {i:Nat} {t:TV},dH ts us->RG ts i=af t->∃u,us[i]?=af u/\fE us i=u/\GV t u
 |[],_,_,_=>λ aa=>cm
 |_::_,_,0,t=>λ g h=>g.uc (Q:=λ us=>∃u,us[0]?=af u/\fE us 0=u/\GV t u) λ u aa g aa=>⟨u,rfl,rfl,am h▸g⟩
 |_::_,_,i+1,t=>λ g h=>g.uc (Q:=λ us=>∃u,us[i+1]?=af u/\fE us (i+1)=u/\GV t u) λ aa aa aa g=>t8 (i:=i) g h
noncomputable def UZ:TV->aC
 | .ex .undef=>true
 |_=>false
theorem Qb{t:TV}{v:AV}(h:UZ t=false)(g:GV t v):v≠ .undef:=by
 rintro rfl
 rcases t with w|_|_|_|_|_|_|_|_|_|_
 ·exact ay ((ah (λ w=>UZ (.ex w)) (show AV.undef=w from g)).trans h)
 ·exact aD g λ aa e=>AV.noConfusion e.1
 ·exact aD g λ aa e=>AV.noConfusion e
 ·exact aD g λ aa e=>AV.noConfusion e
 ·exact aD g λ aa e=>AV.noConfusion e.1
 ·exact aD g λ aa g=>g.elim λ aa e=>AV.noConfusion e.1
 ·exact aD g λ aa e=>AV.noConfusion e.1
 ·exact AV.noConfusion (show AV.undef= .lst [] from g)
 ·exact aD g λ aa g=>g.elim λ aa e=>AV.noConfusion e.1
 ·exact AV.noConfusion (eH g)
 ·exact aD g λ aa e=>AV.noConfusion e.1
def aLd(s:AS)(i:Nat):aq (ae (TV×AS)):=ob (RG s.loc i) λ t=>nB (!UZ t) (af [(t,s)])
theorem As{v:AV}{σ:St}{K:AV->St->Prop}(h:v≠ .undef)(k:K v σ):ldK v σ K:=by
 rcases v with _|_|_|_|_|_|_|_|_|_|_|_|_|_|_|_|_|_
 ·exact bt rfl h
 all_goals exact k
theorem Kq{s:AS}{i:Nat}{outs:ae (TV×AS)}{σ:St}(h:aLd s i=af outs)(gs:GS s σ):D2 (ldK (fE σ.loc i) σ) GV outs:=
 ob.u h λ t e h=>nB.u h λ q h=>(t8 gs.loc e).elim λ u g=>D2.one h g.2.2 gs λ K k=>g.2.1.symm▸As (Qb (nb q) g.2.2) k
noncomputable def Hn(ct:Ct)(i:Nat):bI:=ct.aS.getD i (bT "")
def e8(i:Nat)(p:c9):SE P ct where
 bA:= .Name (Hn ct i) p
 run:=λ σ K=>ldK (fE σ.loc i) σ K
 ch:=Az ct i (Hn ct i)
 star:=λ aa aa=>rfl
 ok:=λ c F G ρ σ s Kv O R h=>X.any<|wpAny_Name (CZ O R c h) ((zc c).2.1)
 ab:=λ s=>aLd s i
 cO:=λ aa s outs h σ gs=>Kq h gs
theorem RF.top{F:Fd}{G:BM}{ρ:ae au}{σ:St}{s:ar}(R:RF F ct.aS G ρ σ s)(O:gO P ct F):∃B p loose mg mb,P.K.In B/\n8 p loose mg mb B/\∀a o,B.get? a=af o->s.heap.get? a=af o:=
 (P.base _ O.ja).imp λ aa=> .imp λ aa=> .imp λ aa=> .imp λ aa=> .imp λ aa=> .imp_right<| .imp_right λ h a o e=>R.rm.kg a o (R.Cy a o (h a o e))
theorem RF.A1{F:Fd}{G:BM}{ρ:ae au}{σ:St}{s:ar}{Q:Prop}(R:RF F ct.aS G ρ σ s)(O:gO P ct F)(k:∀B p loose mg mb,P.K.In B->n8 p loose mg mb B->(∀a o,B.get? a=af o->s.heap.get? a=af o)->Q):Q:=
 (R.top O).elim λ B h=>h.elim λ p h=>h.elim λ l h=>h.elim λ mg h=>h.elim λ mb h=>k B p l mg mb h.1 h.2.1 h.2.2
theorem RF.K{F:Fd}{G:BM}{ρ:ae au}{σ:St}{s:ar}(R:RF F ct.aS G ρ σ s)(O:gO P ct F):P.K.In s.heap:=R.A1 O λ aa aa aa aa aa h aa k=>h.keeps k
theorem RF.ja{F:Fd}{G:BM}{ρ:ae au}{σ:St}{s:ar}(R:RF F ct.aS G ρ σ s)(O:gO P ct F):P.Φ G:=P.mono _ _ R.Cy O.ja
noncomputable def Cw(ct:Ct)(x:bI):aC:=(ct.names.lookup x==af .globalImplicit)&&!(x==bT "__debug__")
theorem Cx{ct:Ct}{x:bI}(c:Cw ct x=true):ct.names.lookup x=af .globalImplicit/\(x==bT "__debug__")=false:=⟨a_.mp (aF c).1,nb (aF c).2⟩
theorem Qp{F:Fd}{G:BM}{ρ:ae au}{σ:St}{s:ar}{x:bI}{v:AV}{p:c9}{K:AV->St->Prop}(c:Cw ct x=true)(O:gO P ct F)(R:RF F ct.aS G ρ σ s)(e:P.gl.lookup x=af v)(h:K v σ):cL P.j (aE P.prog P.w) F.A (eval (.Name x p) F.env) (PE F ct.aS G ρ K) s:=
 have c:=Cx c
 (P.glob G x v ρ (R.ja O) e).elim λ u q=>R.A1 O λ aa aa aa aa aa h1 h2 h3=>
  X.any<|Name_function_global O.kind (by unfold Env.kindOf; rw[O.names]; exact c.1) (loadGlobal_global (by rw[O.glob]; exact h2.g.keeps h3) (mg_of h1 h2.g q.1) (PE.here R q.2 h)) c.2
def xGv(x:bI)(v:AV)(p:c9):SE P ct where
 bA:= .Name x p
 run:=λ σ K=>P.gl.lookup x=af v/\K v σ
 ch:=Cw ct x
 star:=λ aa aa=>rfl
 ok:=λ c F G ρ σ s Kv O R h=>Qp c O R h.1 h.2
end
def binI(op:cH)(a b:Int)(k:Int->Prop):Prop:=match op with
 | .Add=>k (a+b)
 | .Sub=>k (a - b)
 | .Mult=>jH a b/\k (a * b)
 | .FloorDiv=>(b≠0/\b.natAbs < 1073741824)/\k (a.fdiv b)
 | .Mod=>b≠0/\k (a.fmod b)
 | .LShift=>(0<=b/\(Builtin.Int.intBits a:Int)+b<=2 ^ 27)/\k (a * 2 ^ b.toNat)
 | .RShift=>0<=b/\k (a.fdiv (2 ^ b.toNat))
 | .Pow=>(0<=b/\(Builtin.Int.intBits a:Int) * b<=2 ^ 27)/\k (a ^ b.toNat)
 |_=>False
noncomputable def isNone:AV->aq aC
 | .none=>af true
 | .undef=>none
 | .val _=>none
 | .any=>none
 |_=>af false
def EJ(op:ke)(i j:Int)(K:aC->Prop):Prop:=match op with
 | .Eq=>K (i==j)
 | .NotEq=>K (i !=j)
 | .Lt=>K (decide (i < j))
 | .LtE=>K (decide (i<=j))
 | .Gt=>K (decide (i > j))
 | .GtE=>K (decide (i>=j))
 |_=>False
def kj(a:AV)(K:Int->Prop):Prop:=match a with
 | .int i=>K i
 |_=>False
theorem kj.e{a:AV}{f:Int->Prop}{Q:AV->Prop}(h:kj a f)(k:∀i,f i->Q (.int i)):Q a:=by
 rcases a with _|_|_|i|_|_|_|_|_|_|_|_|_|_|_|_|_|_
 all_goals first|exact h.elim|exact k i h
theorem kj.u{G:BM}{ρ:ae au}{a:AV}{v:ak}{f:Int->Prop}{Q:ak->Prop}(h:kj a f)(va:VR G ρ a v)(k:∀i t,f i->Q (.int i t)):Q v:=
 h.e (Q:=λ a=>VR G ρ a v->Q v) (λ i h va=>va.iu λ t=>k i t h) va
def zV(op:cH)(a b:AV)(σ:St)(K:AV->St->Prop):Prop:=kj a λ i=>kj b λ j=>binI op i j λ r=>K (.int r) σ
def QE(o:aq aC)(K:aC->Prop):Prop:=match o with
 |some c=>K c
 |none=>False
theorem QE.u{o:aq aC}{K:aC->Prop}{Q:Prop}(h:QE o K)(k:∀c,o=af c->K c->Q):Q:=by
 rcases o with _|c
 ·exact h.elim
 ·exact k c rfl h
def KV(op:ke)(o:aq aC)(K:aC->Prop):Prop:=match op with
 | .Is=>QE o K
 | .IsNot=>QE o λ c=>K (!c)
 |_=>False
def yf(op:ke)(a b:AV)(K:aC->Prop):Prop:=match b with
 | .int j=>kj a λ i=>EJ op i j K
 | .none=>KV op (isNone a) K
 |_=>False
theorem yf.u{op:ke}{a b:AV}{K:aC->Prop}{Q:AV->Prop}(h:yf op a b K)(k1:KV op (isNone a) K->Q .none)(k2:∀j,(kj a λ i=>EJ op i j K)->Q (.int j)):Q b:=by
 rcases b with _|_|_|j|_|_|_|_|_|_|_|_|_|_|_|_|_|_
 all_goals first|exact h.elim|exact k1 h|exact k2 j h
def truth(a:AV)(K:aC->Prop):Prop:=match a with
 | .bool b=>K b
 | .int i=>K (i !=0)
 |_=>False
def wc(op:cH)(p q:Int×Int):aq (Int×Int):=match op with
 | .Add=>af (p.1+q.1,p.2+q.2)
 | .Sub=>af (p.1 - q.2,p.2 - q.1)
 | .Mult=>aY (decide (0<=p.1/\p.1=p.2/\p.1 < 1048576)) (af (p.1 * q.1,p.1 * q.2)) (nB (decide (0<=q.1/\q.1=q.2/\q.1 < 1048576)) (af (p.1 * q.1,p.2 * q.1)))
 | .FloorDiv=>nB (decide (0 < q.1/\q.1=q.2/\q.1 < 1073741824)) (af (p.1.fdiv q.1,p.2.fdiv q.1))
 | .Mod=>nB (decide (0 < q.1/\q.1=q.2)) (aY (decide (p.1=p.2)) (af (p.1.fmod q.1,p.1.fmod q.1)) (af (0,q.1 - 1)))
 | .RShift=>nB (decide (0<=q.1/\q.1=q.2)) (af (p.1.fdiv (2 ^ q.1.toNat),p.2.fdiv (2 ^ q.1.toNat)))
 | .Pow=>nB (decide (p.1=2/\p.2=2/\0<=q.1/\q.2 < 1000)) (af (2 ^ q.1.toNat,2 ^ q.2.toNat))
 |_=>none
theorem qA{a b c:Int}(h:a<=b)(hc:0 < c):a.fdiv c<=b.fdiv c:=by
 rw[jc _ (eY hc),jc _ (eY hc)]; exact Int.ediv_le_ediv hc h
theorem My{a b:Int}(h0:0<=a)(h1:a < 1048576):jH a b:=F7 (pR (aO (by decide) h0) (dr h1 (by decide)))
theorem zb{a b:Int}(h0:0<=b)(h1:b < 1048576):jH a b:=kh (pR (aO (by decide) h0) (dr h1 (by decide)))
theorem pin{p:Int×Int}{i:Int}(d:p.1=p.2)(h0:p.1<=i)(h1:i<=p.2):i=p.1:=e_ (aO h1 (dX d.symm)) h0
def BF(op:cH)(r:Int×Int)(i j:Int):Prop:=∃x,r.1<=x/\x<=r.2/\∀k:Int->Prop,k x->binI op i j k
theorem BF.of{op:cH}{r r':Int×Int}{i j:Int}(e:af r'=af r)(x:Int)(h0:r'.1<=x)(h1:x<=r'.2)(k:∀k:Int->Prop,k x->binI op i j k):BF op r i j:=am e▸⟨x,h0,h1,k⟩
theorem Sp{α:Type}{p:Prop}[d:fF p]{x y:aq α}{r:α}{Q:Prop}(h:aY (decide p) x y=af r)(k1:p->x=af r->Q)(k2:y=af r->Q):Q:=by
 cases d with
 |isTrue e=>exact k1 e h
 |isFalse e=>exact k2 h
theorem nD{α:Type}{p:Prop}[d:fF p]{x:aq α}{r:α}{Q:Prop}(h:nB (decide p) x=af r)(k:p->x=af r->Q):Q:=nB.u h λ e=>k (bg e)
theorem Ju{b:Int}(h:0 < b)(k:b < 1073741824):b≠0/\b.natAbs < 1073741824:=⟨jn h,mY.mp ((mh (eY h)).symm▸k)⟩
theorem fmod_lo{i q:Int}(h:0 < q):0<=i.fmod q/\i.fmod q<=q - 1:=by
 rw[jd _ (eY h)]; exact⟨my _ (jn h),jf (kq i h)⟩
theorem zk{a b:Int}(h:a<=b):(2:Int) ^ a.toNat<=2 ^ b.toNat:=by
 have:=rG (n:=2) (by decide) (Int.toNat_le_toNat h)
 exact_mod_cast this
section
variable{p q r:Int×Int}{i j:Int}(i0:p.1<=i)(i1:i<=p.2)(j0:q.1<=j)(j1:j<=q.2)
include i0 i1 j0 j1
theorem OJ(h:wc .Mult p q=af r):BF .Mult r i j:=
 Sp h (λ d h=> .of h (i * j) (pin d.2.1 i0 i1▸fG j0 (pin d.2.1 i0 i1▸d.1)) (pin d.2.1 i0 i1▸fG j1 (pin d.2.1 i0 i1▸d.1)) λ aa z=>⟨My (aO d.1 i0) ((pin d.2.1 i0 i1).symm▸d.2.2),z⟩)
  λ h=>nD h λ d h=> .of h (i * j) (pin d.2.1 j0 j1▸dY i0 (pin d.2.1 j0 j1▸d.1)) (pin d.2.1 j0 j1▸dY i1 (pin d.2.1 j0 j1▸d.1)) λ aa z=>⟨zb (aO d.1 j0) ((pin d.2.1 j0 j1).symm▸d.2.2),z⟩
theorem TF(h:wc .FloorDiv p q=af r):BF .FloorDiv r i j:=
 nD h λ d h=>have e:=pin d.2.1 j0 j1; .of h (i.fdiv q.1) (qA i0 d.1) (qA i1 d.1) λ aa z=>e.symm▸⟨Ju d.1 d.2.2,z⟩
theorem OI(h:wc .Mod p q=af r):BF .Mod r i j:=
 nD h λ d h=>have e:=pin d.2 j0 j1; Sp h (λ c h=> .of h (i.fmod q.1) (pin c i0 i1▸dT _) (pin c i0 i1▸dT _) λ aa z=>e.symm▸⟨jn d.1,z⟩)
  λ h=> .of h (i.fmod q.1) (fmod_lo d.1).1 (fmod_lo d.1).2 λ aa z=>e.symm▸⟨jn d.1,z⟩
theorem OM(h:wc .RShift p q=af r):BF .RShift r i j:=
 nD h λ d h=>have e:=pin d.2 j0 j1; have pp:(0:Int) < 2 ^ q.1.toNat:=xH (by decide); .of h (i.fdiv (2 ^ q.1.toNat)) (qA i0 pp) (qA i1 pp) λ aa z=>e.symm▸⟨d.1,z⟩
theorem OK(h:wc .Pow p q=af r):BF .Pow r i j:=
 nD h λ d h=>have e:i=2:=(pin (d.1.trans d.2.1.symm) i0 i1).trans d.1; .of h (2 ^ j.toNat) (zk j0) (zk j1) λ aa z=>
  have j2:=aO d.2.2.1 j0
  e.symm▸⟨⟨j2,aO (Int.mul_le_mul (pO.mpr (pR (k:=2) (by decide) (by decide))) (aO j1 (eY d.2.2.2)) j2 (by decide)) (by decide)⟩,z⟩
theorem Kj{op:cH}(h:wc op p q=af r):BF op r i j:=by
 rcases op
 all_goals first|exact cm h|exact OJ i0 i1 j0 j1 h|exact TF i0 i1 j0 j1 h|exact OI i0 i1 j0 j1 h|exact OM i0 i1 j0 j1 h|exact OK i0 i1 j0 j1 h|exact .of h (i+j) (rC i0 j0) (rC i1 j1) λ aa z=>z|exact .of h (i - j) (Int.sub_le_sub i0 j1) (Int.sub_le_sub i1 j0) λ aa z=>z
end
def R5(op:cH)(t u:TV)(s:AS):aq (ae (TV×AS)):=ob (mj t) λ p=>ob (mj u) λ q=>ob (wc op p q) λ r=>af [(SQ r,s)]
abbrev IJ(op:cH)(s:St)(outs:ae (TV×AS))(a b:AV):Prop:=∃i j,a= .int i/\b= .int j/\D2 (λ K=>binI op i j λ r=>K (.int r) s) GV outs
theorem BO{op:cH}{t u:TV}{s:AS}{outs:ae (TV×AS)}{a b:AV}{σ:St}(h:R5 op t u s=af outs)(ga:GV t a)(gb:GV u b)(gs:GS s σ):IJ op σ outs a b:=
 ob.u h λ p e1 h=>ob.u h λ q e2 h=>ob.u h λ r e3 h=>mj.u (Q:=λ a=>IJ op σ outs a b) e1 ga λ i i0 i1=>mj.u (Q:=λ b=>IJ op σ outs (.int i) b) e2 gb λ j j0 j1=>
  (Kj i0 i1 j0 j1 e3).elim λ x k=>⟨i,j,rfl,rfl,D2.one h (tX k.1 k.2.1) gs λ K=>k.2.2 λ r=>K (.int r) σ⟩
noncomputable def isAdd(op:cH):aq {u:e6 // op= .Add}:=match op with
 | .Add=>af ⟨(),rfl⟩
 |_=>none
noncomputable def R0(op:cH)(t u:TV)(s:AS):aq (ae (TV×AS)):=ob (isAdd op) λ aa=>ob (tI t) λ aa=>ob (tI u) λ aa=>af [(.ai,s)]
theorem BL{op:cH}{t u:TV}{s:AS}{outs:ae (TV×AS)}{a b:AV}{σ:St}(h:R0 op t u s=af outs)(ga:GV t a)(gb:GV u b)(gs:GS s σ):D2 (zV op a b σ) GV outs:=
 ob.u h λ e aa h=>ob.u h λ p aa h=>ob.u h λ q aa h=>(p.2 _ ga).elim λ i ea=>(q.2 _ gb).elim λ j eb=>D2.one (a:= .int (i+j)) h ⟨_,rfl⟩ gs λ K z=>e.2.symm▸ea.symm▸eb.symm▸z
theorem sU{α:Type}{x y:aq α}{a:α}(h:oe x y=af a):x=af a\/y=af a:=by
 rcases x with _|b
 ·exact .inr h
 ·exact .inl h
theorem IJ.b{op:cH}{outs:ae (TV×AS)}{a b:AV}{σ:St}(h:IJ op σ outs a b):D2 (zV op a b σ) GV outs:=h.elim λ aa h=>h.elim λ aa h=>h.1▸h.2.1▸h.2.2
noncomputable def YD(op:cH):aq {u:e6 // op= .Sub}:=match op with
 | .Sub=>af ⟨(),rfl⟩
 |_=>none
noncomputable def tNr(t:TV):aq {c:Int×Int×Int // t= .nr c.1 c.2.1 c.2.2}:=match t with
 | .nr v l x=>af ⟨(v,l,x),rfl⟩
 |_=>none
noncomputable def Zb(op:cH)(t u:TV):aq {r:TV // ∀a b,GV t a->GV u b->∃i j,a= .int i/\b= .int j/\op= .Sub/\GV r (.int (i - j))}:=ob (YD op) λ e=>ob (tNr t) λ v=>ob (lz u) λ c=>af ⟨.nr (v.1.1 - c.1) (v.1.2.1 - c.1) (v.1.2.2 - c.1),λ a b ga gb=>
 have g:a= .int v.1.1/\v.1.2.1<=v.1.1/\v.1.1<=v.1.2.2:=(v.2▸ga:GV (.nr _ _ _) a)
 have k:b= .int c.1:=(c.2▸gb:GV (.ex _) b)
 ⟨v.1.1,c.1,g.1,k,e.2,rfl,Ig g.2.1 _,Ig g.2.2 _⟩⟩
noncomputable def R1(op:cH)(t u:TV)(s:AS):aq (ae (TV×AS)):=ob (Zb op t u) λ r=>af [(r.1,s)]
theorem BN{op:cH}{t u:TV}{s:AS}{outs:ae (TV×AS)}{a b:AV}{σ:St}(h:R1 op t u s=af outs)(ga:GV t a)(gb:GV u b)(gs:GS s σ):IJ op σ outs a b:=
 ob.u h λ r aa h=>(r.2 a b ga gb).elim λ i k=>k.elim λ j k=>⟨i,j,k.1,k.2.1,D2.one h k.2.2.2 gs λ K z=>k.2.2.1.symm▸z⟩
def Kk(op:cH)(t u:TV)(s:AS):aq (ae (TV×AS)):=oe (R1 op t u s) (oe (R5 op t u s) (R0 op t u s))
theorem O8{op:cH}{t u:TV}{s:AS}{outs:ae (TV×AS)}{a b:AV}{σ:St}(h:Kk op t u s=af outs)(ga:GV t a)(gb:GV u b)(gs:GS s σ):D2 (zV op a b σ) GV outs:=
 (sU h).elim (λ h=>(BN h ga gb gs).b) λ h=>(sU h).elim (λ h=>(BO h ga gb gs).b) λ h=>BL h ga gb gs
noncomputable def DM(t f:aC):ae aC:=aY t [true] (aY f [false] [true,false])
theorem H1{t f b:aC}(ht:t=true->b=true)(hf:f=true->b=false):b∈DM t f:=by
 rcases t
 ·rcases f
  ·rcases b
   ·exact .tail _ (.head _)
   ·exact .head _
  ·exact show b∈[false] from(hf rfl).symm▸ .head _
 ·exact show b∈[true] from(ht rfl).symm▸ .head _
theorem NT{a b c:Prop}[fF a][fF b][fF c](ht:a->c)(hf:b->¬c):decide c∈DM (decide a) (decide b):=H1 (λ e=>cz (ht (bg e))) λ e=>dj (hf (bg e))
def Km(op:ke)(p q:Int×Int):aq (ae aC):=match op with
 | .Eq=>af (DM (decide (p.1=p.2/\q.1=q.2/\p.1=q.1)) (decide (p.2 < q.1\/q.2 < p.1)))
 | .NotEq=>af (DM (decide (p.2 < q.1\/q.2 < p.1)) (decide (p.1=p.2/\q.1=q.2/\p.1=q.1)))
 | .Lt=>af (DM (decide (p.2 < q.1)) (decide (q.2<=p.1)))
 | .LtE=>af (DM (decide (p.2<=q.1)) (decide (q.2 < p.1)))
 | .Gt=>af (DM (decide (q.2 < p.1)) (decide (p.2<=q.1)))
 | .GtE=>af (DM (decide (q.2<=p.1)) (decide (p.2 < q.1)))
 |_=>none
def CmI(op:ke)(i j:Int)(l:ae aC):Prop:=∃b,b∈l/\∀K:aC->Prop,K b->EJ op i j K
theorem CmI.of{op:ke}{i j:Int}{l m:ae aC}{b:aC}(e:af m=af l)(h:b∈m)(k:∀K:aC->Prop,K b->EJ op i j K):CmI op i j l:=⟨b,am e▸h,k⟩
theorem BP{op:ke}{p q:Int×Int}{l:ae aC}{i j:Int}(h:Km op p q=af l)(i0:p.1<=i)(i1:i<=p.2)(j0:q.1<=j)(j1:j<=q.2):CmI op i j l:=
 have lt1:p.2 < q.1->i < j:=λ e=>gD i1 (kt e j0)
 have lt2:q.2 < p.1->j < i:=λ e=>gD j1 (kt e i0)
 have le1:p.2<=q.1->i<=j:=λ e=>aO i1 (aO e j0)
 have YU:q.2<=p.1->j<=i:=λ e=>aO j1 (aO e i0)
 have eq1:(p.1=p.2/\q.1=q.2/\p.1=q.1)->i=j:=λ e=>(pin e.1 i0 i1).trans (e.2.2.trans (pin e.2.1 j0 j1).symm)
 have ne1:(p.2 < q.1\/q.2 < p.1)->i≠j:=λ e=>e.elim (λ e=>Int.ne_of_lt (lt1 e)) λ e=>jn (lt2 e)
 match op,h with
 | .Eq,h=> .of h (NT eq1 ne1) λ aa z=>z
 | .NotEq,h=> .of h (H1 (λ e=>rS.mpr (ne1 (bg e))) λ e=>bne_eq_false_iff_eq.mpr (eq1 (bg e))) λ aa z=>z
 | .Lt,h=> .of h (NT lt1 λ e=>gZ.mpr (YU e)) λ aa z=>z
 | .LtE,h=> .of h (NT le1 λ e=>Int.not_le.mpr (lt2 e)) λ aa z=>z
 | .Gt,h=> .of h (NT lt2 λ e=>gZ.mpr (le1 e)) λ aa z=>z
 | .GtE,h=> .of h (NT YU λ e=>Int.not_le.mpr (lt1 e)) λ aa z=>z
 | .Is,h=>cm h
 | .IsNot,h=>cm h
 | .In,h=>cm h
 | .NotIn,h=>cm h
def AY:TV->aq aC
 | .ex v=>isNone v
 |_=>af false
theorem FN{t:TV}{v:AV}{c:aC}(e:AY t=af c)(g:GV t v):isNone v=af c:=by
 have o:∀{x},v=x->isNone x=af c->isNone v=af c:=λ h k=>h▸k
 rcases t with w|_|_|_|_|_|_|_|_|_|_
 ·exact o g e
 ·exact aD g λ aa g=>o g.1 e
 ·exact aD g λ aa g=>o g e
 ·exact aD g λ aa g=>o g e
 ·exact aD g λ aa g=>o g.1 e
 ·exact aD g λ aa g=>g.elim λ aa g=>o g.1 e
 ·exact aD g λ aa g=>o g.1 e
 ·exact o g e
 ·exact aD g λ aa g=>g.elim λ aa g=>o g.1 e
 ·exact o (eH g) e
 ·exact aD g λ aa g=>o g.1 e
def isT(op:ke)(t:TV):aq (ae aC):=match op with
 | .Is=>ob (AY t) λ c=>af [c]
 | .IsNot=>ob (AY t) λ c=>af [!c]
 |_=>none
def Ko(op:ke)(t u:TV):aq (ae aC):=oe (ob (Ti u) λ aa=>isT op t) (ob (mj t) λ p=>ob (mj u) λ q=>Km op p q)
abbrev Oq(op:ke)(l:ae aC)(a b:AV):Prop:=∃c,c∈l/\∀K:aC->Prop,K c->yf op a b K
theorem UY{op:ke}{t:TV}{l:ae aC}{a:AV}(h:isT op t=af l)(ga:GV t a):Oq op l a .none:=by
 have o:∀{c},isNone a=af c->∀{K:aC->Prop},K c->QE (isNone a) K:=λ e aa z=>e▸z
 rcases op
 all_goals first|exact cm h|exact ob.u h λ c e h=>⟨_,am h▸ .head _,λ K z=>o (FN e ga) z⟩
theorem BQ{op:ke}{t u:TV}{l:ae aC}{a b:AV}(h:Ko op t u=af l)(ga:GV t a)(gb:GV u b):Oq op l a b:=
 (sU h).elim (λ h=>ob.u h λ e aa h=>(show b= .none from(e.2▸gb:GV (.ex .none) b))▸UY h ga) λ h=>ob.u h λ p e1 h=>ob.u h λ q e2 h=>
  mj.u (Q:=λ a=>Oq op l a b) e1 ga λ i i0 i1=>mj.u (Q:=λ b=>Oq op l (.int i) b) e2 gb λ j j0 j1=>BP h i0 i1 j0 j1
noncomputable def aaa(t:TV):aq (ae aC):=match t with
 | .ex (.bool b)=>af [b]
 | .tb=>af [true,false]
 |_=>none
def Ks(t:TV):aq (ae aC):=oe (aaa t) (ob (mj t) λ p=>Km .NotEq p (0,0))
abbrev TE(l:ae aC)(a:AV):Prop:=∃c,c∈l/\∀K:aC->Prop,K c->truth a K
theorem Ry{t:TV}{l:ae aC}{a:AV}(h:aaa t=af l)(ga:GV t a):TE l a:=by
 rcases t with w|_|_|_|_|_|_|_|_|_|_
 ·refine(show a=w from ga)▸?_
  clear ga
  rcases w with _|_|b|_|_|_|_|_|_|_|_|_|_|_|_|_|_|_
  all_goals first|exact cm h|exact⟨b,am h▸ .head _,λ K z=>z⟩
 all_goals first|exact cm h|exact aD ga λ b e=>⟨b,am h▸(by rcases b; exact .tail _ (.head _); exact .head _),λ K z=>e▸z⟩
theorem Iw{t:TV}{l:ae aC}{a:AV}(h:Ks t=af l)(ga:GV t a):TE l a:=
 (sU h).elim (Ry · ga) λ h=>ob.u h λ p e h=>mj.u (Q:=λ a=>TE l a) e ga λ i i0 i1=>BP (j:=0) h i0 i1 (dT _) (dT _)
noncomputable def bsO(l:ae aC)(s:AS):ae (aC×AS):=l.map λ b=>(b,s)
theorem D2.bools{l:ae aC}{c:aC}{s:AS}{σ:St}(m:c∈l)(gs:GS s σ):D2 (λ K=>K c σ) Eq (bsO l s):=⟨c,σ,⟨(c,s),dN.mpr ⟨c,m,rfl⟩,rfl,gs⟩,λ aa k=>k⟩
noncomputable def tbs(l:ae aC)(s:AS):ae (TV×AS):=l.map λ b=>(.ex (.bool b),s)
theorem D2.Wd{l:ae aC}{c:aC}{s:AS}{σ:St}(m:c∈l)(gs:GS s σ):D2 (λ K=>K (AV.bool c) σ) GV (tbs l s):=⟨_,σ,⟨(.ex (.bool c),s),dN.mpr ⟨c,m,rfl⟩,rfl,gs⟩,λ aa k=>k⟩
section
variable{prog:aK}{w:bw}{A:bn}{F:Fd}{aS:ae bI}{G:BM}{ρ:ae au}{σ:St}{s:ar}{Kv:AV->St->Prop}
theorem PE.toks{av:AV}{v:ak}{t:Nat}(R:RF F aS G ρ σ s)(h:VR G ρ av v)(k:Kv av σ):PE F aS G ρ Kv v {s with toks:=t}:=PE.here (R.toks t) h k
theorem Ew{op:cH}{i j:Int}{t u:kx}(R:RF F aS G ρ σ s)(h:binI op i j λ r=>Kv (.int r) σ):
  aH (aE prog w) A (kV op (.int i t) (.int j u)) (PE F aS G ρ Kv) dw s:=by
 have o:∀{r t n},Kv (.int r) σ->PE F aS G ρ Kv (.int r t) {s with toks:=n}:=λ h=>PE.toks R VR.mH h
 rcases op
 case Add=>exact wpAny_add_int (o h)
 case Sub=>exact sub_int' (o h)
 case Mult=>exact mul_int (o h.2) h.1
 case FloorDiv=>exact floordiv_int h.1.1 (o h.2) (Or.inl (oK h.1.2))
 case Mod=>exact mod_int' h.1 (o h.2)
 case LShift=>exact lshift_int h.1.1 h.1.2 (o h.2)
 case RShift=>exact rshift_int h.1 (o h.2)
 case Pow=>exact pow_int h.1.1 h.1.2 (o h.2)
 all_goals exact h.elim
theorem E5{op:cH}{i j:Int}{t u:kx}(R:RF F aS G ρ σ s)(h:binI op i j λ r=>Kv (.int r) σ):
  aH (aE prog w) A (mC op (.int i t) (.int j u)) (PE F aS G ρ Kv) dw s:=by
 have o:∀{r t n},Kv (.int r) σ->PE F aS G ρ Kv (.int r t) {s with toks:=n}:=λ h=>PE.toks R VR.mH h
 rcases op
 case Add=>exact wpAny_iadd_int (o h)
 case Sub=>exact isub_int (o h)
 case Mult=>exact imul_int (o h.2) h.1
 case FloorDiv=>exact ifloordiv_int h.1.1 (o h.2) (Or.inl (oK h.1.2))
 case Mod=>exact imod_int h.1 (o h.2)
 case LShift=>exact ilshift_int h.1.1 h.1.2 (o h.2)
 case RShift=>exact irshift_int h.1 (o h.2)
 case Pow=>exact ipow_int h.1.1 h.1.2 (o h.2)
 all_goals exact h.elim
theorem r7{op:cH}{a b:AV}{u v:ak}(R:RF F aS G ρ σ s)(va:VR G ρ a u)(vb:VR G ρ b v)(h:zV op a b σ Kv):
  aH (aE prog w) A (mC op u v) (PE F aS G ρ Kv) dw s:=
 h.u (Q:=λ u=>aH (aE prog w) A (mC op u v) (PE F aS G ρ Kv) dw s) va λ i t h=>h.u (Q:=λ v=>aH (aE prog w) A (mC op (.int i t) v) (PE F aS G ρ Kv) dw s) vb λ aa aa=>E5 R
theorem EK{op:ke}{i j:Int}{t u:kx}{Q:ak->ar->Prop}(h:EJ op i j λ c=>Q (.bool c) s):
  aH (aE prog w) A (dz op (.int i t) (.int j u)) Q dw s:=by
 rcases op
 case Eq=>exact PyProof.Rows.eq_int h
 case NotEq=>exact PyProof.Rows.ne_int h
 case Lt=>exact PyProof.Rows.lt_int h
 case LtE=>exact PyProof.Rows.le_int h
 case Gt=>exact PyProof.Rows.gt_int h
 case GtE=>exact PyProof.Rows.ge_int h
 all_goals exact h.elim
theorem y8{a:AV}{v:ak}{c:aC}(h:VR G ρ a v)(e:isNone a=af c):(v== .none)=c:=by
 have r:∀{x},v=x->(x== .none)=false->isNone a=af false->(v== .none)=c:=λ h k z=>h▸k.trans (am (z.symm.trans e))
 rcases a with _|_|_|_|_|_|_|_|_|_|_|_|_|_|_|_|_|_
 case none=>exact(ah (·==c_) (show v= .none from h)).trans (am e)
 case bool=>exact r h rfl rfl
 case int=>exact aD h λ aa h=>r h rfl rfl
 case j9=>exact aD h λ aa h=>r h rfl rfl
 all_goals first|exact cm e|exact(VR.isRef h rfl).elim λ aa h=>r h rfl rfl
theorem EM{op:ke}{a:AV}{u:ak}{Q:ak->ar->Prop}(va:VR G ρ a u)(h:KV op (isNone a) λ c=>Q (.bool c) s):aH (aE prog w) A (dz op u .none) Q dw s:=by
 rcases op
 case Is=>exact QE.u h λ c e h=>is_none (y8 va e▸h)
 case IsNot=>exact QE.u h λ c e h=>isNot_none (y8 va e▸h)
 all_goals exact h.elim
theorem wo{op:ke}{a b:AV}{u v:ak}{Q:ak->ar->Prop}(va:VR G ρ a u)(vb:VR G ρ b v)(h:yf op a b λ c=>Q (.bool c) s):
  aH (aE prog w) A (dz op u v) Q dw s:=
 h.u (Q:=λ b=>VR G ρ b v->aH (aE prog w) A (dz op u v) Q dw s) (λ h e=>(show v= .none from e)▸EM va h)
  (λ j h vb=>h.u (Q:=λ u=>aH (aE prog w) A (dz op u v) Q dw s) va λ i t h=>vb.iu (Q:=λ v=>aH (aE prog w) A (dz op (.int i t) v) Q dw s) λ aa=>EK h) vb
theorem DK{a:AV}{v:ak}{Q:aC->ar->Prop}(va:VR G ρ a v)(h:truth a λ c=>Q c s):aH (aE prog w) A (truthy v) Q dw s:=by
 rcases a with _|_|_|_|_|_|_|_|_|_|_|_|_|_|_|_|_|_
 case bool=>exact va.Si (Q:=λ v=>aH (aE prog w) A (truthy v) Q dw s) (pN h)
 case int=>exact va.iu (Q:=λ v=>aH (aE prog w) A (truthy v) Q dw s) λ aa=>truthy_int h
 all_goals exact h.elim
end
theorem IF{op:ke}{i j:Int}{k k':aC->Prop}(h:EJ op i j k)(m:∀c,k c->k' c):EJ op i j k':=by
 rcases op
 all_goals first|exact m _ h|exact h.elim
theorem IH{op:ke}{o:aq aC}{k k':aC->Prop}(h:KV op o k)(m:∀c,k c->k' c):KV op o k':=by
 rcases op
 case Is=>exact QE.u h λ c e h=>e▸m _ h
 case IsNot=>exact QE.u h λ c e h=>e▸m _ h
 all_goals exact h.elim
theorem yP{op:ke}{a b:AV}{k k':aC->Prop}(h:yf op a b k)(m:∀c,k c->k' c):yf op a b k':=
 h.u (Q:=λ b=>yf op a b k') (λ h=>IH h m) λ j h=>h.e (Q:=λ a=>yf op a (.int j) k') λ i h=>IF h m
theorem FU{a:AV}{k k':aC->Prop}(h:truth a k)(m:∀c,k c->k' c):truth a k':=by
 rcases a with _|_|_|_|_|_|_|_|_|_|_|_|_|_|_|_|_|_
 all_goals first|exact h.elim|exact m _ h
section
variable{P:cC}{ct:Ct}
abbrev WP(P:cC)(A:bn){α:Type}(t:im α)(Q:α->ar->Prop)(s:ar):Prop:=cL P.j (aE P.prog P.w) A t Q s
theorem SE.then(l r:SE P ct)(cl:l.ch=true)(cr:r.ch=true){F:Fd}{G:BM}{ρ:ae au}{σ:St}{s:ar}(O:gO P ct F)(R:RF F ct.aS G ρ σ s)
  {K:AV->AV->St->Prop} (h:l.run σ λ a aI=>r.run aI λ b aW=>K a b aW) {Q:ak->ak->ar->Prop}
  (hq:∀G' ρ' a b u v b8 s',dG G G'->Ext ρ ρ'->RF F ct.aS G' ρ' b8 s'->VR G' ρ' a u->VR G' ρ' b v->K a b b8->Q u v s'):
  WP P F.A (eval l.bA F.env) (λ u s₁=>WP P F.A (eval r.bA F.env) (λ v bp=>Q u v bp) s₁) s:=by
 exact X.mono (l.ok cl F G ρ σ s _ O R h) λ u s₁ z=>z.u λ dW c8 a aI fQ fu dS va bH=>X.mono (r.ok cr F dW c8 aI s₁ _ O dS bH) λ v bp z=>z.u λ jr g8 b aW jk jw gP vb cW=>
  hq jr g8 a b u v aW bp (fQ.trans jk) (fu.trans jw) gP (va.up jk jw) vb cW
theorem CV{A:bn}{F:Fd}{aS:ae bI}{G G':BM}{ρ ρ':ae au}{K:AV->St->Prop}{t:im ak}{s:ar}(g:dG G G')(x:Ext ρ ρ')(h:aH (aE P.prog P.w) A t (PE F aS G' ρ' K) dw s):WP P A t (PE F aS G ρ K) s:=
 X.any (c7 h (λ aa aa z=>PE.up g x z) λ aa aa z=>z)
noncomputable def Kt{β:Type}(e:AS->aq (ae (TV×AS)))(f:TV->AS->aq (ae (β×AS))):AS->aq (ae (β×AS)):=λ s=>bO (e s) f
theorem nN{α β:Type}{g:β->α->Prop}{e:SE P ct}{f:TV->AS->aq (ae (β×AS))}{C:AV->St->(α->St->Prop)->Prop}(fo:l8 P)(k:∀t s outs a σ,f t s=af outs->GV t a->GS s σ->D2 (C a σ) g outs):
  Ab (Kt e.ab f) (λ σ K=>e.run σ λ a aI=>C a aI K) g:=λ s outs h σ gs=>(e.cO fo).bind h gs λ t s' l h' a b8 ga qc=>k t s' l a b8 h' ga qc
noncomputable def R9{β:Type}(l r:AS->aq (ae (TV×AS)))(f:TV->TV->AS->aq (ae (β×AS))):AS->aq (ae (β×AS)):=λ s=>bO (l s) λ a s₁=>bO (r s₁) λ b bp=>f a b bp
theorem rU{α β:Type}{g:β->α->Prop}{l r:SE P ct}{f:TV->TV->AS->aq (ae (β×AS))}{C:AV->AV->St->(α->St->Prop)->Prop}(fo:l8 P)(k:∀t u s outs a b σ,f t u s=af outs->GV t a->GV u b->GS s σ->D2 (C a b σ) g outs):
  Ab (R9 l.ab r.ab f) (λ σ K=>l.run σ λ a aI=>r.run aI λ b aW=>C a b aW K) g:=
 λ s outs h σ gs=>(l.cO fo).bind h gs λ t s' l' h' a b8 ga qc=>(r.cO fo).bind h' qc λ u bp l₂ cW b aW gb oq=>k t u bp l₂ a b aW cW ga gb oq
noncomputable def AH:ke->aC
 | .In=>false
 | .NotIn=>false
 |_=>true
theorem yD{op:ke}{e:aB}(h:AH op=true):pQ op e=false:=by
 have h1:((op== .In)||(op== .NotIn))=false:=by
  rcases op
  all_goals first|rfl|exact ay h
 rcases e
 case Set=>unfold pQ; dsimp only; rw[h1,d9,Bool.false_and]
 all_goals rfl
def adU(l:SE P ct)(op:ke)(r:SE P ct)(p:c9):SE P ct where
 bA:= .Compare l.bA [op] [r.bA] p
 run:=λ σ K=>l.run σ λ a aI=>r.run aI λ b aW=>yf op a b λ c=>K (.bool c) aW
 ch:=AH op&&(l.ch&&r.ch)
 star:=λ aa aa=>rfl
 ok:=λ c F G ρ σ s Kv O R h=>X.BG (yD (aF c).1) (SE.then l r (aF (aF c).2).1 (aF (aF c).2).2 O R h λ G' ρ' a b u v b8 s' g x R' va vb k=>
  X.any (wo va vb (yP k λ c k=>PE.up g x (PE.here R' VR.KO k))))
 ab:=R9 l.ab r.ab λ t u s=>ob (Ko op t u) λ bs=>af (tbs bs s)
 cO:=λ fo=>rU fo λ t u s outs a b σ h ga gb gs=>ob.u h λ bs e h=>(BQ e ga gb).elim λ c k=>am h▸(D2.Wd k.1 gs).eq λ K z=>k.2 _ z
def Rs(l:SE P ct)(op:ke)(r:SE P ct)(p:c9):ST P ct where
 bA:= .Compare l.bA [op] [r.bA] p
 run:=λ σ K=>l.run σ λ a aI=>r.run aI λ b aW=>yf op a b λ c=>K c aW
 ch:=AH op&&(l.ch&&r.ch)
 ok:=λ c F G ρ σ s Kv O R h=>X.isTrue_Compare1 (yD (aF c).1) (SE.then l r (aF (aF c).2).1 (aF (aF c).2).2 O R h λ G' ρ' a b u v b8 s' g x R' va vb k=>
  X.any (wo va vb (yP k λ c k=>X.any (pN ⟨G',ρ',b8,g,x,R',k⟩))))
 ab:=R9 l.ab r.ab λ t u s=>ob (Ko op t u) λ bs=>af (bsO bs s)
 cO:=λ fo=>rU fo λ t u s outs a b σ h ga gb gs=>ob.u h λ bs e h=>(BQ e ga gb).elim λ c k=>am h▸(D2.bools k.1 gs).eq λ K z=>k.2 _ z
def Z7(e:SE P ct):ST P ct where
 bA:=e.bA
 run:=λ σ K=>e.run σ λ a aI=>truth a λ c=>K c aI
 ch:=vG 4 e.bA&&e.ch
 ok:=λ c F G ρ σ s Kv O R h=>X.An (aab (aF c).1) (X.mono (e.ok (aF c).2 F G ρ σ s _ O R h) λ v s₁ z=>z.u λ G' ρ' a b8 g x R' va k=>X.any (DK va (FU k λ c k=>⟨G',ρ',b8,g,x,R',k⟩)))
 ab:=Kt e.ab λ t s=>ob (Ks t) λ bs=>af (bsO bs s)
 cO:=λ fo=>nN fo λ t s outs a σ h ga gs=>ob.u h λ bs e h=>(Iw e ga).elim λ c k=>am h▸(D2.bools k.1 gs).eq λ K z=>k.2 _ z
noncomputable def adz(e:ST P ct)(p:c9):ST P ct where
 bA:= .UnaryOp .Not e.bA p
 run:=λ σ K=>e.run σ λ c aI=>K (!c) aI
 ch:=e.ch
 ok:=λ c F G ρ σ s Kv O R h=>X.E7 (X.mono (e.ok c F G ρ σ s _ O R h) λ b s₁ z=>z.u λ G' ρ' b8 g x R' k=>⟨G',ρ',b8,g,x,R',k⟩)
 ab:=λ s=>bO (e.ab s) λ b s=>af [(!b,s)]
 cO:=λ fo s outs h σ gs=>(e.cO fo).bind h gs λ b s' l h' a b8 ga qc=>D2.one h' (ah not ga) qc λ aa k=>k
noncomputable def xIf(t:ST P ct)(a b:SE P ct)(p:c9):SE P ct where
 bA:= .IfExp t.bA a.bA b.bA p
 run:=λ σ K=>t.run σ λ c aI=>aY c (a.run aI K) (b.run aI K)
 ch:=t.ch&&(a.ch&&b.ch)
 star:=λ aa aa=>rfl
 ok:=λ c F G ρ σ s Kv O R h=>X.IfExp (X.mono (t.ok (aF c).1 F G ρ σ s _ O R h) λ v s₁ z=>z.u λ G' ρ' b8 g x R' k=>match v,k with
  |false,k=>X.mono (b.ok (aF (aF c).2).2 F G' ρ' b8 s₁ _ O R' k) λ aa aa=>PE.up g x
  |true,k=>X.mono (a.ok (aF (aF c).2).1 F G' ρ' b8 s₁ _ O R' k) λ aa aa=>PE.up g x)
 ab:=λ s=>bO (t.ab s) λ c s=>aY c (a.ab s) (b.ab s)
 cO:=λ fo s outs h σ gs=>(t.cO fo).bind h gs λ c s' l h' c' b8 ga qc=>ga▸match c,h' with
  |false,h'=>b.cO fo s' l h' b8 qc
  |true,h'=>a.cO fo s' l h' b8 qc
def Y6(a:AV)(K:AV->Prop):Prop:=kj a λ i=>K (.int (-i))
def adW(e:SE P ct)(p:c9):SE P ct where
 bA:= .UnaryOp .USub e.bA p
 run:=λ σ K=>e.run σ λ a aI=>Y6 a λ v=>K v aI
 ch:=e.ch
 star:=λ aa aa=>rfl
 ok:=λ c F G ρ σ s Kv O R h=>X.Vl (X.mono (e.ok c F G ρ σ s _ O R h) λ v s₁ z=>z.u λ G' ρ' a b8 g x R' va k=>kj.u (Q:=λ v=>WP P F.A (unaryOp .USub v) (PE F ct.aS G ρ Kv) s₁) k va λ i t k=>X.any (neg_int (PE.up g x (PE.toks R' VR.mH k))))
 ab:=Kt e.ab λ t s=>ob (mj t) λ q=>af [(SQ (-q.2,-q.1),s)]
 cO:=λ fo=>nN fo λ t s outs a σ h ga gs=>ob.u h λ q e h=>mj.u (Q:=λ a=>D2 (λ K=>Y6 a λ v=>K v σ) GV outs) e ga λ i i0 i1=>D2.one h (tX (nA i1) (nA i0)) gs λ K z=>z
structure SL(P:cC)(ct:Ct) where
 bA:ae aB
 run:St->(ae AV->St->Prop)->Prop
 ch:aC
 plain:∀env p,(backTo p (fD bA env)).any (·.1)=false
 ok:ch=true->∀F G ρ σ s Kv p,gO P ct F->RF F ct.aS G ρ σ s->run σ Kv->WP P F.A (spliced (backTo p (fD bA F.env))) (PL F ct.aS G ρ Kv) s
 ab:AS->aq (ae (ae TV×AS)):=λ aa=>none
 cO:l8 P->Ab ab run dH:=by nofun
noncomputable def q7:SL P ct where
 bA:=[]
 run:=λ σ K=>K [] σ
 ch:=true
 plain:=λ aa aa=>rfl
 ok:=λ aa F G ρ σ s Kv p O R h=>X.any (BC ⟨G,ρ,[],σ,dG.refl _,Ext.refl _,R,bJ.nil,h⟩)
 ab:=λ s=>af [([],s)]
 cO:=λ aa s outs h σ gs=>D2.one h rfl gs λ aa k=>k
noncomputable def iV(e:SE P ct)(r:SL P ct):SL P ct where
 bA:=e.bA::r.bA
 run:=λ σ K=>e.run σ λ v aI=>r.run aI λ vs aW=>K (v::vs) aW
 ch:=e.ch&&r.ch
 plain:=λ env p=>by rw[e.star]; show(false||(backTo p (fD r.bA env)).any (·.1))=false; rw[r.plain]; rfl
 ok:=λ c F G ρ σ s Kv p O R h=>X.lu (e.star _ _) (X.mono (e.ok (aF c).1 F G ρ σ s _ O R h) λ v s₁ z=>z.u λ dW c8 a aI fQ fu dS va bH=>X.mono (r.ok (aF c).2 F dW c8 aI s₁ _ p O dS bH) λ vs bp z=>z.u λ jr g8 b aW jk jw gP vb cW=>
  ⟨jr,g8,a::b,aW,fQ.trans jk,fu.trans jw,gP,bJ.cons (va.up jk jw) vb,cW⟩)
 ab:=λ s=>bO (e.ab s) λ v s₁=>bO (r.ab s₁) λ vs bp=>af [(v::vs,bp)]
 cO:=λ fo s outs h σ gs=>(e.cO fo).bind h gs λ t s' l h' a b8 ga qc=>(r.cO fo).bind h' qc λ u bp l₂ cW b aW gb oq=>D2.one cW (dH.cons ga gb) oq λ aa k=>k
noncomputable def t2(l:ae AV):aC:=bB l.length 9
theorem t3{l:ae AV}(h:t2 l=true):l.length<=gA:=aG (aQ h) (by decide)
noncomputable def cK(b:aC)(k:Prop):Prop:=aY b k False
theorem cK.u{b:aC}{k Q:Prop}(h:cK b k)(f:b=true->k->Q):Q:=by
 rcases b
 ·exact h.elim
 ·exact f rfl h
theorem cK.i{b:aC}{k:Prop}(e:b=true)(h:k):cK b k:=e▸h
theorem RF.K0{F:Fd}{aS:ae bI}{G:BM}{ρ:ae au}{σ:St}{s:ar}(_:RF F aS G ρ σ s):s.heap.get? s.heap.objs.size=none:=none_of λ aa e=>fA _ (b9 e)
theorem RF.DF{F:Fd}{aS:ae bI}{G:BM}{ρ:ae au}{σ:St}{s:ar}{a:au}(R:RF F aS G ρ σ s):(ρ++[a])[σ.mem.length]?=af a:=R.rm.len▸xS
noncomputable def S3(vs:ae TV)(s:AS):aq (ae (TV×AS)):=match vs with
 |[a,b]=>af [(.tp a b,s)]
 |_=>none
theorem MQ{sh:ae AV->aC}{vs:ae TV}{s:AS}{l:ae (TV×AS)}{us:ae AV}{σ:St}(q:∀a b,sh [a,b]=true)(ga:dH vs us)(gs:GS s σ)(h:S3 vs s=af l):D2 (λ K=>cK (sh us) (K (.tup us) σ)) GV l:=by
 rcases vs with _|⟨a,_|⟨b,_|_⟩⟩
 case cons.cons.nil=>exact ga.u2 (Q:=λ us=>D2 (λ K=>cK (sh us) (K (.tup us) σ)) GV l) λ x y g1 g2=>D2.one h ⟨x,y,rfl,g1,g2⟩ gs λ K z=>cK.i (q x y) z
 all_goals exact cm h
theorem DD{vs:ae TV}{us:ae AV}(g:dH vs us)(h:bB vs.length 9=true):t2 us=true:=by unfold t2; rw[g.len]; exact h
def Wz(es:SL P ct)(k:Nat)(p:c9):SE P ct where
 bA:= .Tuple es.bA k p
 run:=λ σ K=>es.run σ λ vs aI=>cK (t2 vs) (K (.tup vs) aI)
 ch:=es.ch
 star:=λ aa aa=>rfl
 ok:=λ c F G ρ σ s Kv O R h=>X.Mz (X.mono (es.ok c F G ρ σ s _ _ O R h) λ vs s₁ z=>by
  exact z.u λ G' ρ' as b8 g x R' va k=>k.u λ hs k=>⟨(bJ.length va).symm▸t3 hs,
   have q:=R'.freeze (s':={s₁ with heap:=s₁.heap.push {cls:= .type "tuple",data:= .seq vs.toArray}}) R'.K0 (aN _ rfl) (λ b o e=>aA _ e) ⟨rfl,rfl,rfl⟩
   PE.up (g.trans q.2) x (PE.here q.1 (VR.aad (BM.zC _ _ _) ⟨rfl,_,rfl⟩ (bJ.up q.2 (Ext.refl _) as va)) k)⟩)
 ab:=λ s=>bO (es.ab s) λ vs s=>oe (S3 vs s) (ob (toAVs vs) λ us=>nB (bB vs.length 9) (af [(.ex (.tup us.1),s)]))
 cO:=λ fo s outs h σ gs=>(es.cO fo).bind h gs λ vs s' l h us b8 ga qc=>(sU h).elim (MQ (λ aa aa=>rfl) ga qc) λ h=>ob.u h λ rB aa h=>nB.u h λ hl h=>
  D2.one h (ah AV.tup (rB.2 _ ga)) qc λ K z=>cK.i (DD ga hl) z
def adV(es:SL P ct)(p:c9):SE P ct where
 bA:= .List es.bA p
 run:=λ σ K=>es.run σ λ vs aI=>cK (t2 vs) (K (.own aI.mem.length) ⟨aI.loc,aI.mem++[.lst vs]⟩)
 ch:=es.ch
 star:=λ aa aa=>rfl
 ok:=λ c F G ρ σ s Kv O R h=>X.nList (X.mono (es.ok c F G ρ σ s _ _ O R h) λ vs s₁ z=>by
  exact z.u λ G' ρ' as b8 g x R' va k=>k.u λ hs k=>⟨(bJ.length va).symm▸t3 hs,
   have Bi:=R'.new (ao:= .lst as) (s':={s₁ with heap:=s₁.heap.push {cls:= .type "list",data:= .seq vs.toArray}}) R'.K0 (aN _ rfl) ⟨vs.toArray,⟨_,rfl⟩,bJ.up (dG.refl _) (Ext.snoc _ _) _ va⟩ (λ b o e=>aA _ e) ⟨rfl,rfl,rfl⟩
   PE.up g (x.trans (Ext.snoc _ _)) (PE.here Bi (VR.Jf R'.DF) k)⟩)
 ab:=λ s=>bO (es.ab s) λ vs s=>nB (bB vs.length 9) (af [(.ex (.own s.mem.length),⟨s.loc,s.mem++[.lst vs]⟩)])
 cO:=λ fo s outs h σ gs=>(es.cO fo).bind h gs λ vs s' l h' us b8 ga qc=>nB.u h' λ e h'=>
  D2.one (σ:=⟨b8.loc,b8.mem++[.lst us]⟩) h' (ah AV.own qc.mem.len.symm) ⟨qc.loc,qc.mem.app (o:= .lst vs) ⟨us,rfl,ga⟩ rfl⟩ λ K z=>cK.i (DD ga e) z
end
def setAt(l:ae AV)(i:Nat)(v:AV):ae AV:=Nq v l i
theorem DA{v u:AV}{Q:Prop}:∀{l:ae AV} {i j:Nat},(setAt l i v)[j]?=af u->(j=i->u=v->Q)->(j≠i->l[j]?=af u->Q)->Q
 |[],_,_=>λ h aa aa=>cm h
 |_::_,0,0=>λ h k aa=>k rfl (am h).symm
 |_::_,0,_+1=>λ h aa k=>k (cy _) h
 |_::_,_+1,0=>λ h aa k=>k (cy _).symm h
 |_::l,i+1,j+1=>λ h k k'=>DA (l:=l) (i:=i) (j:=j) h (λ e=>k (ah (·+1) e)) λ n=>k' λ e=>n (eL e)
section
variable{P:cC}{ct:Ct}{F:Fd}{G:BM}{ρ:ae au}{σ:St}{s s':ar}
noncomputable def pd(ct:Ct)(i:Nat)(x:bI):aC:=(ct.aS[i]?==af x)&&((ct.names.lookup x==af .local)||(!ct.ro&&(ct.names.lookup x==af .cell)))
theorem Ox{h:Heap}{a:au}{m m':bI->aq ak}(x:h.Ns a m)(y:h.Ns a m')(n:bI):m n=m' n:=by
 obtain⟨o,es,ep,ho,hd,_,hf⟩:=x
 obtain⟨o',Bn,JW,E1,LG,_,hf'⟩:=y
 have e:=Data.dict.inj (hd.symm.trans ((ah Obj.data (am (ho.symm.trans E1))).trans LG))
 exact(hf n).symm.trans (e.1▸hf' n)
theorem RF.Zt{c:au}{h':Heap}{t:Nat}{YW:ae AV}(R:RF F ct.aS G ρ σ s)(hs:k7 c s.heap h')(cr:c∉ρ)(cG:G c=none)(nf:∀a,F.free a->a≠c)(hc:∃o,h'.get? c=af o)
  (ns:∃m,h'.Ns F.env.locals m) (cs:∀y d,F.env.cells.lookup y=af d->∃v,h'.IsCell d v) (loc:∀(i:Nat) x v,ct.aS[i]?=af x->YW[i]?=af v->v≠ .undef->∃u,VR G ρ v u/\At F.env h' x u):RF F ct.aS G ρ ⟨YW,σ.mem⟩ {s with heap:=h',toks:=t}:=
 have kp:∀a o,a≠c->s.heap.get? a=af o->h'.get? a=af o:=λ a o n e=>hs.extBut a o n e
 {rm:=R.rm.HQ λ a o q e=>kp a o (λ z=>q.elim (λ q=>cr (z▸q)) λ q=>dh cG (z▸q)) e
  ns:=ns
  loc:=loc
  lG:=R.lG
  Bq:=R.Bq
  cell:=λ y d e=>have h:=R.cell y d e; ⟨h.1,h.2.1,cs y d e,h.2.2.2⟩
  p9:=R.p9
  keep:=λ a o n f e=>kp a o (nf a f) (R.keep a o n f e)
  live:=λ a o e=>(d5 (a=c)).elim (λ z=>z▸hc) λ z=>(R.live a o e).imp λ o'=>kp a o' z
  ext:=R.ext
  nw:=R.nw
  Cy:=R.Cy
  Bp:=R.Bp
  gz:=R.gz}
theorem RF.Hi{h':Heap}{i:Nat}{x:bI}{av:AV}{u:ak}(nd:ct.aS.Nodup)(R:RF F ct.aS G ρ σ s)(JV:ct.aS[i]?=af x)(va:VR G ρ av u)(ax:At F.env h' x u)(ao:∀y w,y≠x->At F.env s.heap y w->At F.env h' y w):
  ∀(j:Nat) y v,ct.aS[j]?=af y->(setAt σ.loc i av)[j]?=af v->v≠ .undef->∃u,VR G ρ v u/\At F.env h' y u:=
 λ j y v e e' n=>DA e' (λ ji z=>z.symm▸⟨u,va,am (JV.symm.trans (ji▸e))▸ax⟩) λ n1 e'=>(R.loc j y v e e' n).imp λ w=> .imp_right (ao y w λ z=>n1 ((n7 (ju e) nd).mp (e.trans ((ah af z).trans JV.symm))))
theorem DH{i:Nat}{x:bI}{av:AV}{u:ak}{Q:e6->ar->Prop}(O:gO P ct F)(R:RF F ct.aS G ρ σ s)(JV:ct.aS[i]?=af x)(ck:F.env.kindOf x=af .local)(va:VR G ρ av u)
  (h:∀s',RF F ct.aS G ρ ⟨setAt σ.loc i av,σ.mem⟩ s'->Q () s'):WP P F.A (ug F.env x u) Q s:=
 R.ns.elim λ m hm=>X.any<|wpAny_storeName_local ck hm (λ h' hn hs=>h _<|
  R.Zt hs R.Bq R.lG (λ aa f=>f.1) (hn.imp λ o h=>h.elim λ aa h=>h.elim λ aa h=>h.1) ⟨_,hn⟩ (λ y d e=>have h:=R.cell y d e; h.2.2.1.imp λ aa hv=>hv.sameBut hs h.1)
   (R.Hi O.vH JV va (.inl ⟨ck,_,hn,dq rfl⟩) λ y w ne=> .imp (.imp_right λ h=>h.elim λ m' h=>⟨_,hn,(bC ne).trans ((Ox hm h.1 y).trans h.2)⟩) (.imp_right<| .imp λ c h=>⟨h.1,h.2.sameBut hs (R.cell y c h.1).1⟩))) (by rw[O.kind]; rfl)
theorem FI{i:Nat}{x:bI}{av:AV}{u:ak}{Q:e6->ar->Prop}(O:gO P ct F)(R:RF F ct.aS G ρ σ s)(JV:ct.aS[i]?=af x)(hro:F.ro=false){c:au}(hc:F.env.cells.lookup x=af c)(ck:F.env.kindOf x=af .cell)(va:VR G ρ av u)
  (h:∀s',RF F ct.aS G ρ ⟨setAt σ.loc i av,σ.mem⟩ s'->Q () s'):WP P F.A (ug F.env x u) Q s:=
 have k:=R.cell x c hc
 k.2.2.1.elim λ ti hv=>X.any<|wpAny_storeName_cell O.kind ck hc hv λ h' hv' hs=>h _<|
  R.Zt hs k.2.1 (k.2.2.2 ck) (λ aa f z=>f.2 hro x ck (z▸hc)) (hv'.imp λ aa h=>h.1) (R.ns.imp λ aa hm=>hm.sameBut hs (Ne.symm k.1))
   (λ y d e=>(d5 (d=c)).elim (λ z=>z▸⟨_,hv'⟩) λ z=>(R.cell y d e).2.2.1.imp λ aa hv=>hv.sameBut hs z)
   (R.Hi O.vH JV va (.inr ⟨.inl ck,c,hc,hv'⟩) λ y w ne=> .imp (.imp_right<| .imp λ aa h=>⟨h.1.sameBut hs (Ne.symm k.1),h.2⟩) (.imp_right<| .imp λ d h=>⟨h.1,h.2.sameBut hs λ z=>ne (R.p9 y x c (z▸h.1) hc)⟩))
theorem t5{i:Nat}{x:bI}{av:AV}{u:ak}{Q:e6->ar->Prop}(O:gO P ct F)(R:RF F ct.aS G ρ σ s)(c:pd ct i x=true)(va:VR G ρ av u)
  (h:∀s',RF F ct.aS G ρ ⟨setAt σ.loc i av,σ.mem⟩ s'->Q () s'):WP P F.A (ug F.env x u) Q s:=
 have kn:F.env.kindOf x=ct.names.lookup x:=ah (F3 x) O.names
 (g_.mp (aF c).2).elim (λ ck=>DH O R (a_.mp (aF c).1) (kn.trans (a_.mp ck)) va h)
  λ ck=>have e:=a_.mp (aF ck).2; (O.cells x e).elim λ aa hc=>FI O R (a_.mp (aF c).1) (O.ro.trans (nb (aF ck).1)) hc (kn.trans e) va h
noncomputable def Fd.now(F:Fd)(G:BM)(ρ:ae au)(s:ar):Fd:={F with h₀:=s.heap,gL:=ρ,G₀:=G,Z:=s}
theorem gO.now(O:gO P ct F)(R:RF F ct.aS G ρ σ s):gO P ct (F.now G ρ s):=⟨O.kind,O.names,O.glob,O.blt,O.room,R.ja O,O.vH,O.ro,O.cells,λ e=>R.ext.get (O.tb e),O.cq⟩
theorem RF.now(R:RF F ct.aS G ρ σ s):RF (F.now G ρ s) ct.aS G ρ σ s:=
 ⟨R.rm,R.ns,R.loc,R.lG,R.Bq,R.cell,R.p9,λ aa aa aa aa e=>e,λ aa o e=>⟨o,e⟩,Ext.refl _,λ aa h=> .inl h,dG.refl _,λ aa aa e=> .inl e,GZ.of ⟨rfl,rfl,rfl⟩⟩
theorem RF.then{G':BM}{ρ':ae au}{b8:St}(R:RF F ct.aS G ρ σ s)(R':RF (F.now G ρ s) ct.aS G' ρ' b8 s'):RF F ct.aS G' ρ' b8 s':=
 ⟨R'.rm,R'.ns,R'.loc,R'.lG,R'.Bq,R'.cell,R'.p9,λ a o n f e=>R'.keep a o (λ hm=>(R.nw a hm).elim n λ q=>dh q e) f (R.keep a o n f e),λ a o e=>(R.live a o e).elim λ o' e'=>R'.live a o' e',R.ext.trans R'.ext,
  λ a h=>(R'.nw a h).elim (R.nw a) λ q=> .inr (R.dead q),R.Cy.trans R'.Cy,λ a o e=>(R'.Bp a o e).elim (R.Bp a o) λ q=> .inr (R.dead q),R.gz.trans R'.gz⟩
end
section
variable{P:cC}{ct:Ct}
theorem D2.fk{t:AF}{a:Fl}{s:AS}{σ:St}{R:(Fl->St->Prop)->Prop}(ga:GF t a)(gs:GS s σ)(k:∀K:Fl->St->Prop,K a σ->R K):D2 R GF [(t,s)]:=(D2.ret ga gs).eq k
def sv(l:ae TV)(i:Nat)(v:TV):ae TV:=Nq v l i
theorem dH.AP{t:TV}{u:AV}(g:GV t u):∀{ts:ae TV} {i:Nat} {us:ae AV},dH ts us->dH (sv ts i t) (setAt us i u)
 |[],_=>λ h=>h.u0 (Q:=λ us=>dH [] (setAt us _ u)) rfl
 |_::ts,0=>λ h=>h.uc (Q:=λ us=>dH (t::ts) (setAt us 0 u)) λ aa aa aa h=> .cons g h
 |a::ts,i+1=>λ h=>h.uc (Q:=λ us=>dH (a::sv ts i t) (setAt us (i+1) u)) λ aa aa a h=> .cons a (dH.AP g h)
theorem dH.set{ts:ae TV}{us:ae AV}(i:Nat){t:TV}{u:AV}(h:dH ts us)(g:GV t u):dH (sv ts i t) (setAt us i u):=dH.AP g h
def AS.set(s:AS)(i:Nat)(t:TV):AS:=⟨sv s.loc i t,s.mem⟩
noncomputable def ZL(p:c9):SX P ct where
 bA:= .Pass p
 run:=λ σ K=>K .d8 σ
 ch:=true
 ok:=λ aa F G ρ σ s Kv O R h=>X.any<|wpAny_Pass ⟨G,ρ, .d8,σ,dG.refl _,Ext.refl _,R,rfl,h⟩
 ab:=λ s=>af [(.d8,s)]
 cO:=λ aa s outs h σ gs=>D2.one h rfl gs λ aa k=>k
noncomputable def FC(e:SE P ct)(p:c9):SX P ct where
 bA:= .Return (af e.bA) p
 run:=λ σ K=>e.run σ λ v aI=>K (.ret v) aI
 ch:=e.ch
 ok:=λ c F G ρ σ s Kv O R h=>X.uk (X.mono (e.ok c F G ρ σ s _ O R h) λ v s₁ z=>z.u λ G' ρ' a b8 g x R' va k=>⟨G',ρ', .ret a,b8,g,x,R',⟨v,rfl,va⟩,k⟩)
 ab:=Kt e.ab λ t s=>af [(.ret t,s)]
 cO:=λ fo=>nN fo λ t s outs a σ h ga gs=>D2.one h ⟨a,rfl,ga⟩ gs λ K z=>z
noncomputable def ZN(p:c9):SX P ct where
 bA:= .Return none p
 run:=λ σ K=>K (.ret .none) σ
 ch:=true
 ok:=λ aa F G ρ σ s Kv O R h=>X.any<|wpAny_Return_none ⟨G,ρ, .ret .none,σ,dG.refl _,Ext.refl _,R,⟨_,rfl,VR.none_⟩,h⟩
 ab:=λ s=>af [(.ret (.ex .none),s)]
 cO:=λ aa s outs h σ gs=>D2.one h ⟨_,rfl,rfl⟩ gs λ K z=>z
theorem PF.d8{F:Fd}{aS:ae bI}{G G':BM}{ρ ρ':ae au}{b8:St}{s':ar}{K:Fl->St->Prop}(g:dG G G')(x:Ext ρ ρ')(R:RF F aS G' ρ' b8 s')(h:K .d8 b8):PF F aS G ρ K .next s':=
 ⟨G',ρ', .d8,b8,g,x,R,rfl,h⟩
def St.set(σ:St)(i:Nat)(v:AV):St:=⟨setAt σ.loc i v,σ.mem⟩
def Nc(i:Nat)(p':c9)(e:SE P ct)(p:c9):SX P ct where
 bA:= .Assign [.Name (Hn ct i) p'] e.bA p
 run:=λ σ K=>e.run σ λ v aI=>K .d8 (aI.set i v)
 ch:=pd ct i (Hn ct i)&&(vG 2 e.bA&&e.ch)
 ok:=λ c F G ρ σ s Kv O R h=>X.BD (HT (aF (aF c).2).1) (X.mono (e.ok (aF (aF c).2).2 F G ρ σ s _ O R h) λ v s₁ z=>z.u λ G' ρ' a b8 g x R' va k=>t5 O R' (aF c).1 va λ s' Bi=>PF.d8 g x Bi k)
 ab:=Kt e.ab λ t s=>af [(.d8,s.set i t)]
 cO:=λ fo=>nN fo λ t s outs a σ h ga gs=>D2.one (σ:=σ.set i a) h rfl ⟨gs.loc.set i ga,gs.mem⟩ λ K z=>z
def adl(i:Nat)(p':c9)(op:cH)(e:SE P ct)(p:c9):SX P ct where
 bA:= .AugAssign (.Name (Hn ct i) p') op e.bA p
 run:=λ σ K=>ldK (fE σ.loc i) σ λ a aI=>e.run aI λ b aW=>zV op a b aW λ r dC=>K .d8 (dC.set i r)
 ch:=Az ct i (Hn ct i)&&(pd ct i (Hn ct i)&&e.ch)
 ok:=λ c F G ρ σ s Kv O R h=>X.v8 (X.mono (X.any (CZ O R (aF c).1 h)) λ v s₁ z=>by
  exact z.u λ dW c8 a aI fQ fu dS va bH=>X.mono (e.ok (aF (aF c).2).2 F dW c8 aI s₁ _ O dS bH) λ u bp z=>z.u λ jr g8 b aW jk jw gP vb cW=>
   X.mono (X.any (r7 gP (va.up jk jw) vb cW)) λ r fY z=>z.u λ rT lg r' dC kM kS lI vr fK=>t5 O lI (aF (aF c).2).1 vr λ s' Bi=>PF.d8 (fQ.trans (jk.trans kM)) (fu.trans (jw.trans kS)) Bi fK)
 ab:=λ s=>bO (aLd s i) λ t s=>bO (e.ab s) λ u s=>bO (Kk op t u s) λ r s=>af [(.d8,s.set i r)]
 cO:=λ fo s outs h σ gs=>ob.u h λ l e1 h=>D2.bind (Kq e1 gs) h λ t s' l' h' a b8 ga qc=>(e.cO fo).bind h' qc λ u bp l₂ cW b aW gb oq=>ob.u cW λ agN e3 cW=>
  D2.bind (O8 e3 ga gb oq) cW λ r fY agO fK c dC gc Sx=>D2.one (σ:=dC.set i c) fK rfl ⟨Sx.loc.set i gc,Sx.mem⟩ λ K z=>z
noncomputable def lN:SS P ct where
 bA:=[]
 run:=λ σ K=>K .d8 σ
 ch:=true
 ok:=λ aa F G ρ σ s Kv O R h=>X.any<|wpAny_execs_nil (PF.d8 (dG.refl _) (Ext.refl _) R h)
 ab:=λ s=>af [(.d8,s)]
 cO:=λ aa s outs h σ gs=>D2.one h rfl gs λ aa k=>k
def sj(f:Fl)(σ:St)(d8:St->Prop)(K:Fl->St->Prop):Prop:=match f with
 | .d8=>d8 σ
 | .ret v=>K (.ret v) σ
noncomputable def aFl(f:AF)(s:AS)(nx:AS->aq (ae (AF×AS))):aq (ae (AF×AS)):=match f with
 | .d8=>nx s
 | .ret t=>af [(.ret t,s)]
theorem Eo{f:AF}{s:AS}{nx:AS->aq (ae (AF×AS))}{l:ae (AF×AS)}{a:Fl}{σ:St}{C:St->(Fl->St->Prop)->Prop}(hn:Ab nx C GF)(h:aFl f s nx=af l)(ga:GF f a)(gs:GS s σ):D2 (λ K=>sj a σ (λ aW=>C aW K) K) GF l:=by
 rcases f with _|t
 ·exact(show a= .d8 from ga)▸hn s l h σ gs
 ·exact aD ga λ v g=>g.1▸D2.one h ⟨v,rfl,g.2⟩ gs λ K z=>z
noncomputable def iJ(x:SX P ct)(r:SS P ct):SS P ct where
 bA:=x.bA::r.bA
 run:=λ σ K=>x.run σ λ f aI=>sj f aI (λ aW=>r.run aW K) K
 ch:=x.ch&&r.ch
 ok:=λ c F G ρ σ s Kv O R h=>X.execs_cons (X.mono (x.ok (aF c).1 F G ρ σ s _ O R h) λ f s₁ z=>z.u λ G' ρ' fl b8 g x R' fr k=>match fl,fr,k with
  | .d8,fr,k=>(show f= .next from fr).symm▸X.mono (r.ok (aF c).2 F G' ρ' b8 s₁ _ O R' k) λ aa aa=>PF.up g x
  | .ret v,fr,k=>aD fr λ u e=>e.1.symm▸⟨G',ρ', .ret v,b8,g,x,R',⟨u,rfl,e.2⟩,k⟩)
 ab:=λ s=>bO (x.ab s) λ f s=>aFl f s r.ab
 cO:=λ fo s outs h σ gs=>(x.cO fo).bind h gs λ f s' l h' a b8 ga qc=>Eo (r.cO fo) h' ga qc
noncomputable def sIf(t:ST P ct)(a b:SS P ct)(p:c9):SX P ct where
 bA:= .If t.bA a.bA b.bA p
 run:=λ σ K=>t.run σ λ c aI=>aY c (a.run aI K) (b.run aI K)
 ch:=t.ch&&(a.ch&&b.ch)
 ok:=λ c F G ρ σ s Kv O R h=>X.If (X.mono (t.ok (aF c).1 F G ρ σ s _ O R h) λ v s₁ z=>z.u λ G' ρ' b8 g x R' k=>match v,k with
  |false,k=>X.mono (b.ok (aF (aF c).2).2 F G' ρ' b8 s₁ _ O R' k) λ aa aa=>PF.up g x
  |true,k=>X.mono (a.ok (aF (aF c).2).1 F G' ρ' b8 s₁ _ O R' k) λ aa aa=>PF.up g x)
 ab:=λ s=>bO (t.ab s) λ c s=>aY c (a.ab s) (b.ab s)
 cO:=λ fo s outs h σ gs=>(t.cO fo).bind h gs λ c s' l h' c' b8 ga qc=>ga▸match c,h' with
  |false,h'=>b.cO fo s' l h' b8 qc
  |true,h'=>a.cO fo s' l h' b8 qc
noncomputable def l6(t:St->(aC->St->Prop)->Prop)(b:St->(Fl->St->Prop)->Prop):Nat->St->(Fl->St->Prop)->Prop
 |0,_,_=>False
 |n+1,σ,K=>t σ λ c aI=>aY c (b aI λ f aW=>sj f aW (λ dC=>l6 t b n dC K) K) (K .d8 aI)
noncomputable def Wp(t:AS->aq (ae (aC×AS)))(b:AS->aq (ae (AF×AS))):Nat->AS->aq (ae (AF×AS))
 |0,_=>none
 |n+1,s=>bO (t s) λ c s=>aY c (bO (b s) λ f s=>aFl f s (Wp t b n)) (af [(.d8,s)])
theorem H8{ta:AS->aq (ae (aC×AS))}{ba:AS->aq (ae (AF×AS))}{t:St->(aC->St->Prop)->Prop}{b:St->(Fl->St->Prop)->Prop}(ht:Ab ta t Eq)(hb:Ab ba b GF):∀n,Ab (Wp ta ba n) (l6 t b n) GF
 |0=>λ aa aa h=>cm h
 |n+1=>λ s outs h σ gs=>ht.bind h gs λ c s' l h' c' b8 ga qc=>ga▸match c,h' with
  |false,h'=>D2.one h' rfl qc λ K z=>z
  |true,h'=>hb.bind h' qc λ f bp l₂ cW a aW ga oq=>Eo (H8 ht hb n) cW ga oq
noncomputable def Ng(t:ST P ct)(b:SS P ct)(p:c9):SX P ct where
 bA:= .While t.bA b.bA [] p
 run:=λ σ K=>∃N,l6 t.run b.run N σ K
 ch:=t.ch&&b.ch
 ok:=λ c F G ρ σ s Kv O R h=>X.While (h.elim λ N h=>X.whileLoop (λ n s'=>PB F ct.aS G ρ (λ aa b8=>l6 t.run b.run n b8 Kv) true s') (λ n s' hI=>hI.u λ dW c8 aI fQ fu dS bH=>match n,bH with
  |0,bH=>bH.elim
  |n+1,bH=>X.mono (t.ok (aF c).1 F dW c8 aI s' _ O dS bH) λ v bp z=>z.u λ jr g8 aW jk jw gP cW=>match v,cW with
   |false,cW=>PF.d8 (fQ.trans jk) (fu.trans jw) gP cW
   |true,cW=>X.mono (b.ok (aF c).2 F jr g8 aW bp _ O gP cW) λ f fY z=>z.u λ rT lg fl dC kM kS lI fr fK=>match fl,fr,fK with
    | .d8,fr,fK=>(show f= .next from fr).symm▸⟨n,jq n,rT,lg,dC,fQ.trans (jk.trans kM),fu.trans (jw.trans kS),lI,fK⟩
    | .ret v,fr,fK=>aD fr λ u e=>e.1.symm▸⟨rT,lg, .ret v,dC,fQ.trans (jk.trans kM),fu.trans (jw.trans kS),lI,⟨u,rfl,e.2⟩,fK⟩) N ⟨G,ρ,σ,dG.refl _,Ext.refl _,R,h⟩)
 ab:=Wp t.ab b.ab 12
 cO:=λ fo s outs h σ gs=>(H8 (t.cO fo) (b.cO fo) 12 s outs h σ gs).eq λ K z=>⟨12,z⟩
end
def St.put(σ:St)(p:Nat)(o:AO):St:=⟨σ.loc,bz σ.mem p o⟩
def pJ(m:ae AO)(p:Nat)(K:AO->Prop):Prop:=match bM m p with
 |some o=>K o
 |none=>False
theorem pJ.u{m:ae AO}{p:Nat}{K:AO->Prop}{Q:Prop}(h:pJ m p K)(k:∀o,bM m p=af o->K o->Q):Q:=by
 unfold pJ at h
 cases e:bM m p with
 |none=>rw[e] at h; exact h.elim
 |some o=>rw[e] at h; exact k o e h
theorem Hv{m:ae AO}{p:Nat}{K:AO->Prop}(h:pJ m p K):∃o,m[p]?=af o/\K o:=h.u λ o e k=>⟨o,(eO m p).symm.trans e,k⟩
theorem dI{m:ae AO}{p:Nat}{o:AO}{K:AO->Prop}(h:bM m p=af o)(k:K o):pJ m p K:=by unfold pJ; rw[h]; exact k
noncomputable def need(p:Prop)[fF p](k:Prop):Prop:=aY (decide p) k False
theorem need.u{p:Prop}[d:fF p]{k Q:Prop}(h:need p k)(f:p->k->Q):Q:=by
 cases d with
 |isTrue e=>exact f e h
 |isFalse e=>exact h.elim
theorem Qw{p:Prop}[fF p]{k:Prop}(h:need p k):p/\k:=h.u .intro
theorem T7{p:Prop}[fF p]{k:Prop}(q:p)(h:k):aY (decide p) k False:=(cz q).symm▸h
def Jb(o:aq AV)(K:AV->Prop):Prop:=match o with
 |some v=>K v
 |none=>False
theorem Jb.u{o:aq AV}{K:AV->Prop}{Q:Prop}(h:Jb o K)(k:∀v,o=af v->K v->Q):Q:=by
 rcases o with _|v
 ·exact h.elim
 ·exact k v rfl h
theorem sk{o:aq AV}{K:AV->Prop}{v:AV}(e:o=af v)(k:K v):Jb o K:=e▸k
theorem TP{k x:Nat}(q:k≠x):aT k x=false:=by
 cases h:aT k x with
 |false=>rfl
 |true=>exact bt (aL h) q
theorem MB{k x:Nat}(q:aT k x=false):k≠x:=λ e=>by rw[e,uS] at q; cases q
section
variable{k x:Nat}{ks:ae Nat}{h:Int}{t:kx}{u:ak}{es:ae bf}{us:ae ak}
theorem uj.u0{Q:ae bf->ae ak->Prop}(h:uj [] es us)(f:Q [] []):Q es us:=(eH h)▸(gh h)▸f
theorem uj.uc{Q:ae bf->ae ak->Prop}(h:uj (k::ks) es us)(f:∀h t u es us,k < NM->uj ks es us->Q (⟨h, .str (nm k) t,u⟩::es) (u::us)):Q es us:=
 aD h λ aa h=>h.elim λ aa h=>h.elim λ aa h=>h.elim λ aa h=>h.elim λ aa h=>h.1▸h.2.1▸f _ _ _ _ _ h.2.2.1 h.2.2.2
theorem uj.cons(hk:k < NM)(r:uj ks es us):uj (k::ks) (⟨h, .str (nm k) t,u⟩::es) (u::us):=⟨h,t,u,es,us,rfl,rfl,hk,r⟩
theorem SR(hk:k < NM)(hx:x < NM)(q:k=x):(nm k==nm x)=true:=(Fp hk hx).trans (a_.mpr q)
theorem SU(hk:k < NM)(hx:x < NM)(q:k≠x):(nm k==nm x)=false:=(Fp hk hx).trans (ed.mpr q)
theorem Lx(e:(nm k==nm x)=true):getL (nm x) (⟨h, .str (nm k) t,u⟩::es)=af (af u):=by
 unfold getL
 rw[xI,show((⟨h, .str (nm k) t,u⟩:bf).key.isStr (nm x))=true from e]
theorem y1(e:(nm k==nm x)=false):getL (nm x) (⟨h, .str (nm k) t,u⟩::es)=getL (nm x) es:=by
 unfold getL
 rw[xI,show((⟨h, .str (nm k) t,u⟩:bf).key.isStr (nm x))=false from e]; rfl
theorem MX{hs:Int}{key v:ak}(e:(nm k==nm x)=true):putL (nm x) hs key v (⟨h, .str (nm k) t,u⟩::es)=⟨h, .str (nm k) t,v⟩::es:=dq e
theorem Jj{hs:Int}{key v:ak}(e:(nm k==nm x)=false):putL (nm x) hs key v (⟨h, .str (nm k) t,u⟩::es)=⟨h, .str (nm k) t,u⟩::putL (nm x) hs key v es:=bC λ z=>ay (e.symm.trans z)
end
theorem Mn{G:BM}{ρ:ae au}{x:Nat}{v:AV}(hx:x < NM):∀{ks:ae Nat} {vs:ae AV} {es:ae bf} {us:ae ak},lk ks vs x=af v->uj ks es us->bJ G ρ vs us->
  ∃u,getL (nm x) es=af (af u)/\VR G ρ v u
 |[],_,_,_=>λ h aa aa=>cm h
 |_::_,[],_,_=>λ h aa aa=>cm h
 |k::ks,w::vs,_,_=>λ h hk hv=>hk.uc (Q:=λ es us=>bJ G ρ (w::vs) us->∃u,getL (nm x) es=af (af u)/\VR G ρ v u) (λ aa aa u aa aa kn hk hv=>
   condB h (λ e h=>⟨u,Lx (SR kn hx (aL e)),am h▸hv.cc.1⟩) λ e h=>(y1 (SU kn hx (MB e))).symm▸Mn hx h hk hv.cc.2) hv
section
variable{G:BM}{ρ:ae au}{x:Nat}{hsh:Int}{t:kx}{v:AV}{u:ak}
def Oz(G:BM)(ρ:ae au)(ks:ae Nat)(vs:ae AV)(es:ae bf):Prop:=∃us,uj ks es us/\bJ G ρ vs us
theorem uj.put(hx:x < NM)(hu:VR G ρ v u):∀{ks:ae Nat} {vs:ae AV} {es:ae bf} {us:ae ak},uj ks es us->bJ G ρ vs us->Oz G ρ (putK ks x) (Jl ks vs x v) (putL (nm x) hsh (.str (nm x) t) u es)
 |[],vs,_,_=>λ hk hv=>hk.u0 (Q:=λ es us=>bJ G ρ vs us->Oz G ρ [x] (Jl [] vs x v) (putL (nm x) hsh (.str (nm x) t) u es)) (λ aa=>⟨[u], .cons hx ⟨rfl,rfl⟩, .cons hu .nil⟩) hv
 |k::ks,[],_,_=>λ hk hv=>hk.uc (Q:=λ es us=>bJ G ρ [] us->Oz G ρ (putK (k::ks) x) (Jl (k::ks) [] x v) (putL (nm x) hsh (.str (nm x) t) u es)) (λ aa aa aa aa aa aa aa hv=>bt (show _::_=[] from hv) (lP _ _)) hv
 |k::ks,w::vs,_,_=>λ hk hv=>hk.uc (Q:=λ es us=>bJ G ρ (w::vs) us->Oz G ρ (ny aT (k::ks) x) (jZ aT (k::ks) (w::vs) x v) (putL (nm x) hsh (.str (nm x) t) u es)) (λ hh t' u' es us kn hk hv=>by
   cases q:aT k x with
   |true=>rw[qH q,oA q,MX (SR kn hx (aL q))]; exact⟨u::us,hk.cons kn, .cons hu hv.cc.2⟩
   |false=>rw[mP q,lx q,Jj (SU kn hx (MB q))]; exact(uj.put hx hu hk hv.cc.2).elim λ us h=>⟨u'::us,h.1.cons kn, .cons hv.cc.1 h.2⟩) hv
end
theorem uj.len:∀{ks:ae Nat} {es:ae bf} {us:ae ak},uj ks es us->es.length=ks.length
 |[],_,_=>λ h=>h.u0 (Q:=λ es aa=>es.length=0) rfl
 |_::ks,_,_=>λ h=>h.uc (Q:=λ es aa=>es.length=ks.length+1) λ aa aa aa aa aa aa h=>ah (·+1) h.len
theorem uj.noRef:∀{ks:ae Nat} {es:ae bf} {us:ae ak},uj ks es us->es.any (·.refKey)=false
 |[],_,_=>λ h=>h.u0 (Q:=λ es aa=>es.any (·.refKey)=false) rfl
 |_::_,_,_=>λ h=>h.uc (Q:=λ es aa=>es.any (·.refKey)=false) λ aa aa aa aa aa aa h=>h.noRef
section
variable{P:cC}
def Fu(o:AO)(K:au->Nat->Prop):Prop:=match o with
 | .inst C j=>K C j
 |_=>False
def QI(o:AO)(K:ae Nat->ae AV->Prop):Prop:=match o with
 | .ns ks vs=>K ks vs
 |_=>False
def Df(m:ae AO)(p:Nat)(K:au->Nat->ae Nat->ae AV->Prop):Prop:=pJ m p λ o=>Fu o λ C j=>pJ m j λ o=>QI o λ ks vs=>K C j ks vs
theorem Fu.u{o:AO}{K:au->Nat->Prop}{Q:AO->Prop}(h:Fu o K)(k:∀C j,K C j->Q (.inst C j)):Q o:=by
 rcases o with _|_|⟨C,j⟩|_|_|_|_|_
 all_goals first|exact h.elim|exact k C j h
theorem QI.u{o:AO}{K:ae Nat->ae AV->Prop}{Q:AO->Prop}(h:QI o K)(k:∀ks vs,K ks vs->Q (.ns ks vs)):Q o:=by
 rcases o with _|_|_|⟨ks,vs⟩|_|_|_|_
 all_goals first|exact h.elim|exact k ks vs h
theorem Df.u{m:ae AO}{p:Nat}{K:au->Nat->ae Nat->ae AV->Prop}{Q:Prop}(h:Df m p K)(k:∀C j ks vs,bM m p=af (.inst C j)->bM m j=af (.ns ks vs)->K C j ks vs->Q):Q:=
 pJ.u h λ o e h=>h.u (Q:=λ o=>bM m p=af o->Q) (λ C j h e=>pJ.u h λ o e2 h=>h.u (Q:=λ o=>bM m j=af o->Q) (λ ks vs h e2=>k C j ks vs e e2 h) e2) e
theorem AE{m:ae AO}{p j:Nat}{C:au}{ks:ae Nat}{vs:ae AV}{K:au->Nat->ae Nat->ae AV->Prop}(e:bM m p=af (.inst C j))(e2:bM m j=af (.ns ks vs))(k:K C j ks vs):Df m p K:=
 dI e (dI (K:=λ o=>QI o λ ks vs=>K C j ks vs) e2 k)
def P1(P:cC)(a:AV)(x:Nat)(mem:ae AO)(K:AV->Prop):Prop:=match a with
 | .own p=>Df mem p λ C aa ks vs=>cK (P.at_ C x) (Jb (lk ks vs x) K)
 | .inst C ks vs=>cK (P.at_ C x) (Jb (lk ks vs x) K)
 |_=>False
def lL(a:AV)(K:Nat->Prop):Prop:=match a with
 | .own p=>K p
 |_=>False
theorem lL.u{a:AV}{K:Nat->Prop}{Q:AV->Prop}(h:lL a K)(k:∀p,K p->Q (.own p)):Q a:=by
 rcases a with _|_|_|_|_|p|_|_|_|_|_|_|_|_|_|_|_|_
 all_goals first|exact h.elim|exact k p h
def Np(P:cC)(a:AV)(x:Nat)(v:AV)(σ:St)(K:St->Prop):Prop:=lL a λ p=>Df σ.mem p λ C j ks vs=>cK (P.at_ C x&&bB ks.length 50) (K (σ.put j (.ns (putK ks x) (Jl ks vs x v))))
theorem VR.handed{G:BM}{ρ:ae au}{a:AV}{v:ak}(h:VR G ρ a v):xU v=true:=by
 have r:∀{x},v=x->xU x=true->xU v=true:=λ h k=>h▸k
 rcases a with _|_|_|_|_|_|_|_|_|_|_|_|_|_|_|_|_|_
 case undef=>exact h.elim
 case none=>exact r h rfl
 case bool=>exact r h rfl
 case int=>exact aD h λ aa h=>r h rfl
 case j9=>exact aD h λ aa h=>r h rfl
 case val=>exact r (eH h) (gh h)
 case any=>exact h
 all_goals exact(VR.isRef h rfl).elim λ aa h=>r h rfl
theorem sC{K:eJ}{C:au}{x:bI}(h:tE K C x=true):plainGet K C x=true/\hasDictIn K C=true/\(∃a,findIn K (.ref C) x=af a/\noGet K a=true)/\
  findIn K (.ref C) "__setattr__"=af (af (.builtin "object.__setattr__"))/\plainOver K C=true/\takerIn K C x=af none:=by
 have h1:=aF h
 have h2:=aF h1.1
 have h3:=aF h2.1
 have h4:=aF h3.1
 have h5:=aF h4.1
 refine⟨h5.1,h5.2,?_,a_.mp h3.2,h2.2,a_.mp h1.2⟩
 have c:=h4.2
 cases e:findIn K (.ref C) x with
 |none=>rw[e] at c; cases c
 |some a=>rw[e] at c; exact⟨a,rfl,c⟩
theorem Lz{A:bn}{s:ar}{K:eJ}{C x d:au}{prog:aK}{w:bw}{es:ae bf}{n:Nat}{name:bI}{v:ak}{Q:ak->ar->Prop}{e:aC}(X:K.In s.heap)(ok:tE K C name=true)
  (hx:s.heap.get? x=af (gE C d)) (hd:s.heap.get? d=af (nH es n)) (hl:getL name es=af (af v)) (hv:xU v=true) (h:Q v {s with toks:=s.toks+1}):
  aH (aE prog w) A (getAttr (.ref x) name e) Q dw s:=by
 have o:=sC ok
 exact o.2.2.1.elim λ c k=>get_value X (⟨hx,rfl,rfl,hd⟩:InstAt s.heap x (gE C d) C (af (nH es n))) (plainGet_of o.1).1 (findObj_own o.2.1 k.1 k.2 ((lookIn_dict ..).trans hl)) hv h
theorem RF.UR{F:Fd}{aS:ae bI}{G:BM}{ρ:ae au}{σ:St}{s:ar}{p j:Nat}{C:au}{ks:ae Nat}{vs:ae AV}{v:ak}{Q:ak->Prop}(R:RF F aS G ρ σ s)(va:VR G ρ (.own p) v)(e:bM σ.mem p=af (.inst C j))(e2:bM σ.mem j=af (.ns ks vs))
  (k:∀x d es n us,s.heap.get? x=af (gE C d)->ρ[j]?=af d->s.heap.get? d=af (nH es n)->uj ks es us->bJ G ρ vs us->Q (.ref x)):Q v:=
 va.QJ λ x hx=>(R.rm.obj p x _ hx ((eO ..).symm.trans e)).elim λ aa h=>h.2.elim λ d q=>(R.rm.obj j d _ q.1 ((eO ..).symm.trans e2)).elim λ aa h2=>h2.2.elim λ es q2=>q2.elim λ n q2=>q2.elim λ us q2=>
  k x d es n us (h.1.trans (ah af q.2)) q.1 (h2.1.trans (ah af q2.1)) q2.2.1 q2.2.2
theorem wI{ct:Ct}{F:Fd}{G:BM}{ρ:ae au}{σ:St}{s:ar}{C y d:au}{es:ae bf}{n:Nat}{us:ae ak}{ks:ae Nat}{vs:ae AV}{x:Nat}{Kv:AV->St->Prop}{e:aC}(O:gO P ct F)(R:RF F ct.aS G ρ σ s)
  (hx:s.heap.get? y=af (gE C d)) (hd:s.heap.get? d=af (nH es n)) (hk:uj ks es us) (hv:bJ G ρ vs us) (h:cK (P.at_ C x) (Jb (lk ks vs x) λ v=>Kv v σ)):
  aH (aE P.prog P.w) F.A (getAttr (.ref y) (nm x) e) (PE F ct.aS G ρ Kv) dw s:=
 h.u λ c h=>h.u λ aa e h=>have a:=P.attr _ _ c; (Mn a.1 e hk hv).elim λ aa w=>Lz (R.K O) a.2 hx hd w.1 w.2.handed (PE.toks R w.2 h)
theorem wG{ct:Ct}{F:Fd}{G:BM}{ρ:ae au}{σ:St}{s:ar}{a:AV}{u:ak}{x:Nat}{Kv:AV->St->Prop}{e:aC}(O:gO P ct F)(R:RF F ct.aS G ρ σ s)(va:VR G ρ a u)(h:P1 P a x σ.mem λ v=>Kv v σ):
  aH (aE P.prog P.w) F.A (getAttr u (nm x) e) (PE F ct.aS G ρ Kv) dw s:=by
 rcases a with _|_|_|_|_|p|_|_|_|_|_|_|_|⟨C,ks,vs⟩|_|_|_|_
 case own=>exact Df.u h λ C j ks vs e1 e2 h=>R.UR (Q:=λ u=>aH (aE P.prog P.w) F.A (getAttr u (nm x) e) (PE F ct.aS G ρ Kv) dw s) va e1 e2 λ y d es n us h1 aa h3 h4 h5=>wI O R h1 h3 h4 h5 h
 case inst=>exact aD va λ y q=>q.elim λ d q=>q.elim λ es q=>q.elim λ n q=>q.elim λ us q=>q.1▸wI O R (R.rm.kg _ _ q.2.1) (R.rm.kg _ _ q.2.2.1) q.2.2.2.1 q.2.2.2.2 h
 all_goals exact h.elim
theorem Nt{A:bn}{s:ar}{K:eJ}{C x d:au}{prog:aK}{w:bw}{es:ae bf}{n:Nat}{name:bI}{v:ak}{Q:e6->ar->Prop}(X:K.In s.heap)(ok:tE K C name=true)
  (hx:s.heap.get? x=af (gE C d)) (hd:s.heap.get? d=af (nH es n)) (hr:es.any (·.refKey)=false) (hz:(putL name (qw w.params name) (.str name (s.toks+1)) v es).length<=1000)
  (h:∀h',h'.get? d=af (nH (putL name (qw w.params name) (.str name (s.toks+1)) v es) (PySem.W.putN name es n))->(∀b o,b≠d->s.heap.get? b=af o->h'.get? b=af o)->Q () {s with heap:=h',toks:=s.toks+2}):
  aH (aE prog w) A (xV (.ref x) name v) Q dw s:=by
 obtain⟨_,hh,_,a,b,c⟩:=(sC ok)
 have I:InstAt s.heap x (gE C d) C (af (nH es n)):=⟨hx,rfl,rfl,hd⟩
 refine set_plain X I a (osa_open (s:={s with toks:=s.toks+1}) X I b c λ bb=>?_)
 obtain⟨cd,hc,LG⟩:=any_some hh
 have D':=dK (Obj.putName name (qw w.params name) (.str name (s.toks+1)) v) hd (by rw[putName_dict]; rfl)
 rw[putName_dict] at D'
 refine aj (aw (aj (aj (wpAny_loadPart hx (aj ((looks_clsIn X hc _ _ _ _ (λ aa aa e=>e) ?_)))))))
 rw[LG]
 refine aw (a:=af d) (aj (aw (aj ?_)))
 unfold nsSet
 refine aj (aj (iC (aw (aj (wpAny_mkText (aj (wpAny_loadPart hd ?_)))))))
 dsimp only
 have c:(!es.toArray.any (·.key.isStr name)&&es.toArray.any (·.refKey))=false:=by
  rw[← uO,← uO,hr,d9]
 rw[aRefKeyMayBeTheName_at,c]
 refine wpAny_updatePart hd ?_
 refine aj (wpAny_lookBehind D' (by exact pastItsLine_dict (by rw[cT,dZ]; omega)) ?_)
 exact aw (h _ D' λ b o n e=>(dF ..).extBut b o n e)
theorem RF.rA{F:Fd}{aS:ae bI}{G:BM}{ρ:ae au}{σ:St}{s s':ar}(R:RF F aS G ρ σ s){i:Nat}{a:au}{wf:AO}{o':Obj}(hi:ρ[i]?=af a)(he:s'.heap.get? a=af o')(q:OR G ρ wf o')
  (k:∀b o,b≠a->s.heap.get? b=af o->s'.heap.get? b=af o) (z:s'.gens=s.gens/\s'.gens=s.gens/\s'.os=s.os):RF F aS G ρ (σ.put i wf) s':=by
 unfold St.put; rw[ou]; exact R.turn hi he q k z
theorem xi{ct:Ct}{F:Fd}{G:BM}{ρ:ae au}{σ:St}{s:ar}{a v:AV}{u y:ak}{x:Nat}{K:St->Prop}{Q:e6->ar->Prop}(O:gO P ct F)(R:RF F ct.aS G ρ σ s)(va:VR G ρ a u)(vv:VR G ρ v y)(h:Np P a x v σ K)
  (hq:∀b8 s',RF F ct.aS G ρ b8 s'->K b8->Q () s'):aH (aE P.prog P.w) F.A (xV u (nm x) y) Q dw s:=
 h.u (Q:=λ a=>VR G ρ a u->aH (aE P.prog P.w) F.A (xV u (nm x) y) Q dw s) (λ p h va=>h.u λ C j ks vs e1 e2 h=>R.UR (Q:=λ u=>aH (aE P.prog P.w) F.A (xV u (nm x) y) Q dw s) va e1 e2 λ z d es n us h1 h2 h3 h4 h5=>h.u λ c h=>
  have a:=P.attr _ _ (aF c).1
  (h4.put (hsh:=qw P.w.params (nm x)) (t:=s.toks+1) a.1 vv h5).elim λ rB w=>
   Nt (R.K O) a.2 h1 h3 h4.noRef (w.1.len.symm▸aG (zl ks) (aG (eI (aQ (aF c).2)) (by decide))) λ h' k1 k2=>
    hq _ _ (R.rA (wf:= .ns (putK ks x) (Jl ks vs x v)) (s':={s with heap:=h',toks:=s.toks+2}) h2 k1 ⟨_,_,rB,rfl,w.1,w.2⟩ k2 ⟨rfl,rfl,rfl⟩) h) va
end
section
variable{P:cC}{ct:Ct}
abbrev tlk:ae Nat->ae TV->Nat->aq TV:=Ff aT
abbrev Z9:ae Nat->ae TV->Nat->TV->ae TV:=jZ aT
theorem GS.inst{s:AS}{σ:St}{p:Nat}{o o2:TO}{c:{c:au×Nat // o= .inst c.1 c.2}}{kv:{c:ae Nat×ae TV // o2= .ns c.1 c.2}}{Q:Prop}(gs:GS s σ)(h1:gW s.mem p=af o)(h2:gW s.mem c.1.2=af o2)
  (k:∀us,bM σ.mem p=af (.inst c.1.1 c.1.2)->bM σ.mem c.1.2=af (.ns kv.1.1 us)->dH kv.1.2 us->Q):Q:=
 (gs.mem.get p (.inst c.1.1 c.1.2) (h1.trans (ah af c.2))).elim λ aa m1=>(gs.mem.get c.1.2 (.ns kv.1.1 kv.1.2) (h2.trans (ah af kv.2))).elim λ aa m2=>aD m2.2 λ us g=>k us (m1.1.trans (ah af m1.2)) (m2.1.trans (ah af g.1)) g.2
def Xf(P:cC)(t:TV)(x:Nat)(s:AS):aq {u:TV // ∀a σ,GV t a->GS s σ->∃v,GV u v/\∀K:AV->Prop,K v->P1 P a x σ.mem K}:=
 oe (ob (nU t) λ p=>jS (gW s.mem p.1) λ o ho=>ob (Hp o) λ c=>jS (gW s.mem c.1.2) λ o2 h2=>ob (oNs o2) λ kv=>bE (P.at_ c.1.1 x) λ hx=>jS (tlk kv.1.1 kv.1.2 x) λ u hu=>af ⟨u,λ a σ ga gs=>
  gs.inst ho h2 λ us m1 m2 g=>(Au g hu).elim λ v z=>⟨v,z.2,λ K k=>(show a= .own p.1 from(p.2▸ga:GV (.ex _) a)).symm▸AE m1 m2 (cK.i hx (sk z.1 k))⟩⟩)
 (ob (Tg t) λ c=>bE (P.at_ c.1.1 x) λ hx=>jS (lk c.1.2.1 c.1.2.2 x) λ v hv=>af ⟨.ex v,λ a σ ga gs=>
  ⟨v,rfl,λ K k=>(show a= .inst c.1.1 c.1.2.1 c.1.2.2 from(c.2▸ga:GV (.ex _) a)).symm▸cK.i hx (sk hv k)⟩⟩)
def AS.put(s:AS)(j:Nat)(o:TO):AS:=⟨s.loc,q8 s.mem j o⟩
def Xi(P:cC)(t:TV)(x:Nat)(u:TV)(s:AS):aq {s':AS // ∀a v σ,GV t a->GV u v->GS s σ->∃b8,GS s' b8/\∀K:St->Prop,K b8->Np P a x v σ K}:=
 ob (nU t) λ p=>jS (gW s.mem p.1) λ o ho=>ob (Hp o) λ c=>jS (gW s.mem c.1.2) λ o2 h2=>ob (oNs o2) λ kv=>bE (P.at_ c.1.1 x&&bB kv.1.1.length 50) λ hx=>bE (aT kv.1.1.length kv.1.2.length) λ hl=>af ⟨s.put c.1.2 (.ns (putK kv.1.1 x) (Z9 kv.1.1 kv.1.2 x u)),λ a v σ ga gv gs=>
  gs.inst ho h2 λ us m1 m2 g=>⟨σ.put c.1.2 (.ns (putK kv.1.1 x) (Jl kv.1.1 us x v)),⟨gs.loc,gs.mem.set (o:= .ns kv.1.1 kv.1.2) (h2.trans (ah af kv.2)) rfl ⟨_,rfl,qh gv (aL hl) g⟩ (.inl rfl)⟩,λ K k=>
   (show a= .own p.1 from(p.2▸ga:GV (.ex _) a)).symm▸AE m1 m2 (cK.i hx k)⟩⟩
noncomputable def OX(o:aB)(x:bI)(p:c9):Prop:=∀env,eval (.Attribute o x p) env=(do
   let v ← eval o env
   dp p.atName
   let r ← holding [v] (getAttr v x true)
   iA o v r
   pure r)
theorem OY{o:aB}(h:vG 5 o=true)(x:bI)(p:c9):OX o x p:=λ env=>(show eval (.Attribute o x p) env=(do
   let v ← attributeBase o x env (eval o env)
   dp p.atName
   let r ← holding [v] (getAttr v x true)
   iA o v r
   pure r) from rfl).trans (ah (λ m:im ak=>m>>=λ v=>(do
   dp p.atName
   let r ← holding [v] (getAttr v x true)
   iA o v r
   pure r)) (R_ h x env _))
def DS(o:SE P ct)(x:Nat)(p:c9):SE P ct where
 bA:= .Attribute o.bA (nm x) p
 run:=λ σ K=>o.run σ λ a aI=>P1 P a x aI.mem λ v=>K v aI
 ch:=vG 5 o.bA&&o.ch
 star:=λ aa aa=>rfl
 ok:=λ c F G ρ σ s Kv O R h=>X.Attribute (OY (aF c).1 _ _ _) (X.mono (o.ok (aF c).2 F G ρ σ s _ O R h) λ v s₁ z=>z.u λ G' ρ' a b8 g x R' va k=>CV g x (wG O R' va k)) λ aa aa aa aa q=>wpAny_letTemporaryGo q
 ab:=Kt o.ab λ t s=>ob (Xf P t x s) λ u=>af [(u.1,s)]
 cO:=λ fo=>nN fo λ t s outs a σ h ga gs=>ob.u h λ u aa h=>(u.2 a σ ga gs).elim λ v k=>D2.one h k.1 gs λ K z=>k.2 _ z
def Nd(o:SE P ct)(x:Nat)(p':c9)(e:SE P ct)(p:c9):SX P ct where
 bA:= .Assign [.Attribute o.bA (nm x) p'] e.bA p
 run:=λ σ K=>e.run σ λ v aI=>o.run aI λ a aW=>Np P a x v aW λ dC=>K .d8 dC
 ch:=vG 2 e.bA&&(e.ch&&o.ch)
 ok:=λ c F G ρ σ s Kv O R h=>X.tC (HT (aF c).1) (SE.then e o (aF (aF c).2).1 (aF (aF c).2).2 O R h λ G' ρ' a b u v b8 s' g x R' va vb k=>
  X.any (xi O R' vb va k λ JA s'' Bi k=>PF.d8 g x Bi k))
 ab:=R9 e.ab o.ab λ u t s=>ob (Xi P t x u s) λ s'=>af [(.d8,s'.1)]
 cO:=λ fo=>rU fo λ u t s outs v a σ h gv ga gs=>ob.u h λ s' aa h=>(s'.2 a v σ ga gv gs).elim λ b8 k=>D2.one h rfl k.1 λ K z=>k.2 _ z
def Nb(o:SE P ct)(x:Nat)(p':c9)(op:cH)(e:SE P ct)(p:c9):SX P ct where
 bA:= .AugAssign (.Attribute o.bA (nm x) p') op e.bA p
 run:=λ σ K=>o.run σ λ ov aI=>P1 P ov x aI.mem λ a=>e.run aI λ b aW=>zV op a b aW λ r dC=>Np P ov x r dC λ qp=>K .d8 qp
 ch:=o.ch&&e.ch
 ok:=λ c F G ρ σ s Kv O R h=>X.qT (X.mono (o.ok (aF c).1 F G ρ σ s _ O R h) λ ov s₁ z=>by
  exact z.u λ dW c8 a aI fQ fu dS va bH=>X.mono (X.any (wG O dS va (Kv:=λ v σ=>e.run σ λ b aW=>zV op v b aW λ r dC=>Np P a x r dC λ qp=>Kv .d8 qp) bH)) λ v bp z=>z.u λ jr g8 old aW jk jw gP vo cW=>
   X.mono (e.ok (aF c).2 F jr g8 aW bp _ O gP cW) λ u fY z=>z.u λ rT lg b dC kM kS lI vb fK=>X.mono (X.any (r7 lI (vo.up kM kS) vb fK)) λ r te z=>z.u λ Tz Oa r' qp CA DV pW vr nQ=>
    X.any (xi O pW (va.up (jk.trans (kM.trans CA)) (jw.trans (kS.trans DV))) vr nQ λ JA s'' Bi k=>PF.d8 (fQ.trans (jk.trans (kM.trans CA))) (fu.trans (jw.trans (kS.trans DV))) Bi k))
end
noncomputable abbrev nO(bs:ae b7):Obj:=⟨.type "bytearray", .none, .bytearray bs.toArray 0,#[]⟩
theorem eX:Bx "bytearray" "__getitem__" "bytearray.__getitem__":=
 .of (owner:="bytearray") (n:="__getitem__") (by rw[bF,a4]; kernel_rfl) (by decide+kernel) (by decide+kernel) (by decide+kernel)
  (by first|exact .inl (by decide+kernel)|exact .inr (by decide+kernel)) (by rw[cj]; kernel_rfl)
theorem oh:fC table "bytearray.__getitem__"=af bV.«bytearray.__getitem__»:=eP (by kernel_rfl)
theorem pn(a b:ak):hW "bytearray.__getitem__" ⟨[a,b],[]⟩:=by unfold hW; kernel_rfl
theorem jE:Bx "bytearray" "__setitem__" "bytearray.__setitem__":=
 .of (owner:="bytearray") (n:="__setitem__") (by rw[bF,a4]; kernel_rfl) (by decide+kernel) (by decide+kernel) (by decide+kernel)
  (by first|exact .inl (by decide+kernel)|exact .inr (by decide+kernel)) (by rw[cj]; kernel_rfl)
theorem oj:fC table "bytearray.__setitem__"=af bV.«bytearray.__setitem__»:=eP (by kernel_rfl)
theorem po(a b c:ak):hW "bytearray.__setitem__" ⟨[a,b,c],[]⟩:=by unfold hW; kernel_rfl
theorem ql:Bx "bytearray" "append" "bytearray.append":=
 .of (owner:="bytearray") (n:="append") (by rw[bF,a4]; kernel_rfl) (by decide+kernel) (by decide+kernel) (by decide+kernel)
  (by first|exact .inl (by decide+kernel)|exact .inr (by decide+kernel)) (by rw[cj]; kernel_rfl)
theorem u7:fC table "bytearray.append"=af bV.«bytearray.append»:=eP (by kernel_rfl)
theorem wg(a b:ak):hW "bytearray.append" ⟨[a,b],[]⟩:=by unfold hW; kernel_rfl
theorem xC:rR (.builtin "bytearray.append")=pure (.type "method_descriptor"):=by show builtinType _=_; rw[uW]; kernel_rfl
theorem uK:Bx "bytearray" "pop" "bytearray.pop":=
 .of (owner:="bytearray") (n:="pop") (by rw[bF,a4]; kernel_rfl) (by decide+kernel) (by decide+kernel) (by decide+kernel)
  (by first|exact .inl (by decide+kernel)|exact .inr (by decide+kernel)) (by rw[cj]; kernel_rfl)
theorem z9:fC table "bytearray.pop"=af bV.«bytearray.pop»:=eP (by kernel_rfl)
theorem BS(a:ak):hW "bytearray.pop" ⟨[a],[]⟩:=by unfold hW; kernel_rfl
theorem DO:rR (.builtin "bytearray.pop")=pure (.type "method_descriptor"):=by show builtinType _=_; rw[uW]; kernel_rfl
theorem ym:PlainAttrs "bytearray":=
 ⟨⟨"bytearray.__getattribute__",by rw[bF,a4]; kernel_rfl,by decide+kernel⟩,by rw[bF,a4]; kernel_rfl⟩
namespace X
theorem rX{J:aC}{prog:aK}{w:bw}{A:bn}{s:ar}{T:cQ}{name:bI}{id:cQ}{b:bV}{self:ak}{rest:ae ak}{Q:ak->ar->Prop}(h:Bx T name id)(hT:s.TypeIs self T)
  (hb:fC table id=af b) (ok:Dd (.builtin id ⟨self::rest,[]⟩)=true)
  (hc:cL J (aE prog w) A.in1 (b ⟨self::rest,[]⟩) (λ fin s'=>∃v,fin= .done (.ret v)/\Q v s') s) (ha:hW id ⟨self::rest,[]⟩):
  cL J (aE prog w) A (call (.builtin id) (self::rest) []) Q s:=by
 refine calls (tree ?_)
 show cL J _ A.in1 (do iz id ⟨self::rest,[]⟩; qP (.builtin id ⟨self::rest,[]⟩)) _ s
 refine cM (any (h.check _ _ _ _ _ _ _ _ hT ha (ret ⟨kX h.plain _,ok,tree ?_⟩)))
 rw[eC h.plain]
 show cL J _ A.in1 (match fC table id with|some b=>b ⟨self::rest,[]⟩|none=>Bg ((Ei id "#data").getD id)) _ s
 rw[hb]
 exact mono hc λ fin s' ⟨v,e,q⟩=>by rw[e]; exact q
end X
section
variable{prog:aK}{w:bw}{A:bn}{s:ar}{a:au}{bs:ae b7}
theorem dd(h:s.heap.get? a=af (nO bs)):s.TypeIs (.ref a) "bytearray":=⟨_,h,rfl⟩
theorem jT{M:iy}{Q:bD b7->ar->Prop}(h:s.heap.get? a=af (nO bs))(q:Q bs.toArray s):aH M A (Builtin.Bytes.payload (.ref a)) Q dw s:=by
 unfold Builtin.Bytes.payload Builtin.Bytes.payload?
 exact aj (aj (iU h (aw (aw q))))
theorem fits{k:Int}(h0:0<=k)(hf:k < 2 ^ 63):Builtin.Bytes.fitsIndex k=true:=by
 unfold Builtin.Bytes.fitsIndex
 rw[jl,cY,cY]
 omega
theorem rz{M:iy}{k:Int}{t:kx}{Q:aq Int->ar->Prop}(h0:0<=k)(hf:k < 2 ^ 63)(q:Q (af k) s):aH M A (Builtin.Bytes.subscript? (.int k t)) Q dw s:=by
 unfold Builtin.Bytes.subscript?
 refine aj (cX (T:="int") (mD s k t) JK ?_)
 rw[bC (by simp)]
 refine aj (bu (a:=k) rfl ?_)
 dsimp only
 rw[fits h0 hf]
 exact aw q
theorem seqIndex_of{k:Int}{n:Nat}(h0:0<=k)(hk:k < n):j7 k n=af k.toNat:=by
 have h1:¬k < 0:=by omega
 unfold j7
 simp only[bC h1]
 rw[dq (by rw[jl,cY,cY]; exact⟨h0,hk⟩)]
theorem KE{k:Int}{t:kx}{Q:ak->ar->Prop}(h:s.heap.get? a=af (nO bs))(h0:0<=k)(hf:k < 2 ^ 63)(hk:k < bs.length)
  (q:Q (.int (bs.getD k.toNat 0).toNat s.toks) {s with toks:=s.toks+1}):aH (aE prog w) A (getItem (.ref a) (.int k t)) Q dw s:=by
 unfold getItem
 try with_reducible refine bU ?_
 first|refine aj (aw ?_)|skip
 refine aj (lQ (dd h) (by decide) ?_)
 refine aj (de (name:=bT "__getitem__") (dd h) eX
  (cA eX (dd h) oh ?_ (pn _ _)))
 unfold bV.«bytearray.__getitem__»
 refine aj (bu (a:=(.ref a,[.int k t])) rfl ?_)
 dsimp only
 refine aj (rz h0 hf ?_)
 dsimp only
 refine aj (jT h ?_)
 have e:(j7 k bs.toArray.size).bind (λ x=>bs.toArray[x]?)=af (bs.getD k.toNat 0):=by
  have hl:k.toNat < bs.length:=by omega
  rw[cT,seqIndex_of h0 hk,lA,qu,gB,d_ hl]; rfl
 rw[e]
 exact aj (lB (aw ⟨_,rfl,aw q⟩))
theorem Gx{t:kx}{Q:ak->ar->Prop}(h:s.heap.get? a=af (nO bs))(hk:bs≠[])
  (q:Q (.int (bs.getLastD 0).toNat s.toks) {s with toks:=s.toks+1}):aH (aE prog w) A (getItem (.ref a) (.int (-1) t)) Q dw s:=by
 unfold getItem
 try with_reducible refine bU ?_
 first|refine aj (aw ?_)|skip
 refine aj (lQ (dd h) (by decide) ?_)
 refine aj (de (name:=bT "__getitem__") (dd h) eX
  (cA eX (dd h) oh ?_ (pn _ _)))
 unfold bV.«bytearray.__getitem__»
 refine aj (bu (a:=(.ref a,[.int (-1) t])) rfl ?_)
 dsimp only
 have sub:∀{Q:aq Int->ar->Prop},Q (af (-1)) s->aH (aE prog w) A.in1 (Builtin.Bytes.subscript? (.int (-1) t)) Q dw s:=λ q=>by
  unfold Builtin.Bytes.subscript?
  refine aj (cX (T:="int") (mD s (-1) t) JK ?_)
  rw[bC (by simp)]
  refine aj (bu (a:=-1) rfl ?_)
  exact aw q
 refine aj (sub ?_)
 dsimp only
 refine aj (jT h ?_)
 have hl:0 < bs.length:=fW.mpr hk
 have e:(j7 (-1) bs.toArray.size).bind (λ x=>bs.toArray[x]?)=af (bs.getLastD 0):=by
  have:j7 (-1) bs.length=af (bs.length - 1):=by
   have h1:(-1:Int) < 0:=by decide
   unfold j7
   simp only[dq h1]
   rw[dq (by rw[jl,cY,cY]; omega)]
   congr 1; omega
  rw[cT,this,lA,qu,← nW,nX]
  cases q:bs.getLast? with
  |none=>exact bt (zE.mp q) hk
  |some b=>rfl
 rw[e]
 exact aj (lB (aw ⟨_,rfl,aw q⟩))
theorem qo{M:iy}{f:bD b7->bD b7}{cs:ae b7}{Q:e6->ar->Prop}(h:s.heap.get? a=af (nO bs))(e:f bs.toArray=cs.toArray)(hz:cs.length<=gA)
  (q:∀h',h'.get? a=af (nO cs)->(∀b o,b≠a->s.heap.get? b=af o->h'.get? b=af o)->Q () {s with heap:=h'}):aH M A (Builtin.Bytes.write (.ref a) f) Q dw s:=by
 show aH M A (updateBytearray a f) Q dw s
 unfold updateBytearray
 refine aj (iU h ?_)
 dsimp only
 have em:Obj.mapBytearray f (nO bs)=nO cs:=by show(⟨_,_, .bytearray (f bs.toArray) 0,_⟩:Obj)=_; rw[e]
 have hh:=dK (Obj.mapBytearray f) h (by rw[em]; rfl)
 rw[em] at hh
 refine aj (wpAny_update h (wpAny_lookBehind hh ?_ (q _ hh λ b o n e=>(dF ..).extBut b o n e)))
 show(if cs.toArray.size > gA then af "bytearray:memory" else none)=none
 rw[bC (by rw[cT]; omega)]
theorem nP{M:iy}{k:Int}{t:kx}{Q:b7->ar->Prop}(h0:0<=k)(hf:k < 256)(q:Q (eG k.toNat) s):aH M A (Builtin.Bytes.byteValue (.int k t)) Q dw s:=by
 unfold Builtin.Bytes.byteValue
 refine aj (bu (a:=k) rfl ?_)
 dsimp only
 rw[bC (by rw[Bool.or_eq_true,cY,cY]; omega)]
 exact aw q
theorem KI{k v:Int}{t u:kx}{Q:e6->ar->Prop}(h:s.heap.get? a=af (nO bs))(h0:0<=k)(hf:k < 2 ^ 63)(hk:k < bs.length)(v0:0<=v)(v1:v < 256)(hz:bs.length<=gA)
  (q:∀h',h'.get? a=af (nO (bs.set k.toNat (eG v.toNat)))->(∀b o,b≠a->s.heap.get? b=af o->h'.get? b=af o)->Q () {s with heap:=h'}):
  aH (aE prog w) A (eV (.ref a) (.int k t) (.int v u)) Q dw s:=by
 unfold eV
 try with_reducible refine bU ?_
 first|refine aj (aw ?_)|skip
 refine aj (lQ (dd h) (by decide) ?_)
 refine aj (de (name:=bT "__setitem__") (dd h) jE
  (cA jE (dd h) oj ?_ (po _ _ _)))
 unfold bV.«bytearray.__setitem__»
 show aH _ _ (Builtin.Bytes.subscript? (.int k t)>>=_) _ _ s
 refine aj (rz h0 hf ?_)
 dsimp only
 refine aj (nP v0 v1 ?_)
 refine aj (jT h ?_)
 rw[cT,seqIndex_of h0 hk]
 dsimp only
 refine aj (qo h (cs:=bs.set k.toNat (eG v.toNat)) (by simp) (by rw[iM]; exact hz) λ h' e1 e2=>?_)
 exact aj (aw (aw ⟨_,rfl,aw (q h' e1 e2)⟩))
end
section
variable{J:aC}{prog:aK}{w:bw}{A:bn}{s:ar}{a:au}{bs:ae b7}
theorem wZ{id x:cQ}{args:Args}(ok:Dd (.builtin id args)=true)(h:rW.contains x=true):¬id=x:=λ e=>ay ((nb ok).symm.trans ((ah rW.contains e).trans h))
theorem QC{id:cQ}{args:Args}(ok:Dd (.builtin id args)=true):Builtin.Bytes.decodersThatHold.contains id=false:=(Bool.or_eq_false_iff.mp (List.contains_append.symm.trans (nb ok))).2
theorem Cj{v:ak}{id:cQ}{pos:ae ak}{kw:ae (bI×ak)}{p:c9}(ok:Dd (.builtin id ⟨pos,kw⟩)=true):(Builtin.Bytes.exported.match_1 (motive:=λ aa=>aC) (D1 id ⟨pos,kw⟩,p) (λ u aa aa aa=>Builtin.Bytes.sameRef u v) (λ u aa aa aa=>Builtin.Bytes.sameRef u v) (λ aa u aa aa aa=>Builtin.Bytes.sameRef u v) (λ u aa aa aa=>Builtin.Bytes.sameRef u v)
  (λ aa aa held aa aa=>held.any (Builtin.Bytes.sameRef v)) (λ id u aa aa aa=>Builtin.Bytes.sameRef u v&&Builtin.Bytes.decodersThatHold.contains id) λ aa=>false)=false:=by
 delta Builtin.Bytes.exported.match_1 Builtin.Bytes.exported._sparseCasesOn_1
 dsimp only
 rw[dif_neg (wZ ok (by decide+kernel)),dif_neg (wZ ok (by decide+kernel)),dif_neg (wZ ok (by decide+kernel)),dif_neg (wZ ok (by decide+kernel)),dif_neg (wZ ok (by decide+kernel))]
 rcases pos with _|⟨u,r⟩
 ·rfl
 ·exact(ah (Builtin.Bytes.sameRef u v&&·) (QC ok)).trans (d9 _)
theorem uz{M:iy}{v:ak}{Q:aC->ar->Prop}(q:Q false s):cL true M A (Builtin.Bytes.exported v) Q s:=λ Γ p Oh hc=>by
 unfold Builtin.Bytes.exported
 show Q _ s
 refine Eq.mp (ah (λ b=>Q b s) (List.any_eq_false.mpr ?_).symm) q
 intro x hx
 have ok:Dd x.1=true:=(bQ.mp hx).elim (λ e=>e▸(hc rfl).1) λ hx=>(hc rfl).2 x hx
 rcases x with⟨c,pp⟩
 rcases c
 case builtin id args=>rcases args; exact λ z=>ay ((Cj ok).symm.trans z)
 all_goals exact ay
end
section
variable{prog:aK}{w:bw}{A:bn}{s:ar}{a:au}{bs:ae b7}
theorem zp{M:iy}{Q:e6->ar->Prop}(h:s.heap.get? a=af (nO bs))(q:Q () s):cL true M A (Builtin.Bytes.checkResize (.ref a)) Q s:=by
 unfold Builtin.Bytes.checkResize
 have e:cL true M A (Builtin.Bytes.exported (.ref a)<||>(do return (← Builtin.Bytes.exportsOf (.ref a)) > 0)) (λ b s'=>b=false/\s'=s) s:=by
  refine X.cM (uz ?_)
  refine X.any ?_
  show aH M A (Builtin.Bytes.exportsOf (.ref a)>>=λ n=>pure (decide (n > 0))) _ _ s
  unfold Builtin.Bytes.exportsOf
  exact aj (aj (iU h (aw (aw ⟨rfl,rfl⟩))))
 refine X.cM (X.mono e λ b s' z=>?_)
 obtain⟨rfl,rfl⟩:=z
 exact X.ret q
theorem Iy{k:Int}{t:kx}{Q:ak->ar->Prop}(h:s.heap.get? a=af (nO bs))(h0:0<=k)(hf:k < 256)(hz:bs.length < gA)
  (q:∀h',h'.get? a=af (nO (bs++[eG k.toNat]))->(∀b o,b≠a->s.heap.get? b=af o->h'.get? b=af o)->Q .none {s with heap:=h'}):
  cL true (aE prog w) A (call (.builtin "bytearray.append") [.ref a, .int k t] []) Q s:=by
 refine X.rX ql (dd h) u7 (show(!rW.contains "bytearray.append")=true from by decide+kernel) ?_ (wg _ _)
 unfold bV.«bytearray.append»
 refine X.cM (X.XX (a:=(.ref a, .int k t)) rfl ?_)
 dsimp only
 refine X.cM (X.any (nP h0 hf ?_))
 refine X.cM (zp h ?_)
 refine X.cM (X.any (qo h (cs:=bs++[eG k.toNat]) (by simp) (by rw[bj]; show _+1<=_; omega) λ h' e1 e2=>?_))
 exact X.ret ⟨_,rfl,q h' e1 e2⟩
theorem TN{Q:ak->ar->Prop}(h:s.heap.get? a=af (nO bs))(IZ:bs≠[])(hz:bs.length<=gA)
  (q:∀h' i t,h'.get? a=af (nO bs.dropLast)->(∀b o,b≠a->s.heap.get? b=af o->h'.get? b=af o)->Q (.int i t) {s with heap:=h',toks:=s.toks+1}):
  cL true (aE prog w) A (call (.builtin "bytearray.pop") [.ref a] []) Q s:=by
 refine X.rX uK (dd h) z9 (show(!rW.contains "bytearray.pop")=true from by decide+kernel) ?_ (BS _)
 unfold bV.«bytearray.pop»
 refine X.cM (X.XX (a:=(.ref a,[])) rfl ?_)
 dsimp only
 refine X.cM (X.ret ?_)
 refine X.cM (X.any (jT h ?_))
 have hl:0 < bs.length:=fW.mpr IZ
 rw[bC (by simp [IZ])]
 have e:(j7 (-1) bs.toArray.size).bind (λ k=>bs.toArray[k]?.map (k,·))=af (bs.length - 1,bs.getLastD 0):=by
  have:j7 (-1) bs.length=af (bs.length - 1):=by
   have h1:(-1:Int) < 0:=by decide
   unfold j7
   simp only[dq h1]
   rw[dq (by rw[jl,cY,cY]; omega)]
   congr 1; omega
  rw[cT,this,lA,qu,← nW,nX]
  cases q:bs.getLast? with
  |none=>exact bt (zE.mp q) IZ
  |some b=>rfl
 rw[e]
 dsimp only
 refine X.cM (zp h ?_)
 refine X.cM (X.any (qo h (cs:=bs.dropLast) (by simp [List.eraseIdx_length_sub_one]) (by rw[F2]; omega) λ h' e1 e2=>?_))
 exact X.cM (X.any (lB (X.ret ⟨_,rfl,q h' _ _ e1 e2⟩)))
end
namespace X
section
variable{J:aC}{prog:aK}{w:bw}{A:bn}{C:au}{R:iT->ar->Prop}{h:Heap}{g:bD d7}{d:Drawn}{t:Nat}{os:OsState}
theorem call_builtin_at{s:ar}{id:cQ}{args:Args}{b:bV}(hq:(D1 id args).quiet=true)(ok:Dd (.builtin id args)=true)(hb:fC table id=af b)
  (hc:cL J (aE prog w) A.in1 (iz id args) (λ aa s₁=>cL J (aE prog w) (A.under (.builtin id args)) (b args)
   (λ fin s'=>match fin with | .done f=>R (.ok f) s' | .again c'=>c'.quiet=true/\Dd c'=true/\dP J (aE prog w) A c' R s') s₁) s):dP J (aE prog w) A (.call (.builtin id) args) R s:=by
 refine tree ?_
 show cL J _ A.in1 (do iz id args; qP (.builtin id args)) _ s
 refine cM (mono hc λ aa s₁ bH=>ret ⟨hq,ok,tree ?_⟩)
 show cL J _ _ (match fC table id with|some b=>b args|none=>Bg ((Ei id "#data").getD id)) _ _
 rw[hb]
 exact bH
theorem uG(args:Args):Dd (.builtin "type.__call__" args)=true:=by show(!rW.contains "type.__call__")=true; decide+kernel
theorem make{rest:ae ak}{init:ak}(Y:Makes (aE prog w) h C)(hi:Looks (aE prog w) h (hZ (.ref C) "__init__") (af init))
  (hb:∀self,Looks (aE prog w) h (bindSpecial init self) (init,[self])) (IZ:(af init !=af (Value.builtin "object.__init__"))=true)
  (hq:dP J (aE prog w) (A.under (.builtin "type.__call__" ⟨.ref C::rest,[]⟩)) (.call init ⟨.ref (h.objs.size+1)::rest,[]⟩)
   (λ r s'=>match r with | .ok (.ret v)=>v= .none/\R (.ok (.ret (.ref (h.objs.size+1)))) s'|_=>False) ⟨(h.push qO).push (gE C h.objs.size),g,d,t,os⟩):
  dP J (aE prog w) A (.call (.ref C) ⟨rest,[]⟩) R ⟨h,g,d,t,os⟩:=by
 have Y':=Y
 obtain⟨⟨oc,od,cd,sl,hC,e1,e2,e4⟩,made,base,self,top,call,typ⟩:=Y
 refine tree ?_
 show cL J _ _ (D5 (.ref C) _) _ _
 refine cM (any (iU hC ?_))
 show cL J _ _ (F8 (.ref C) _) _ _
 unfold F8
 refine cM (any (call.at ?_))
 dsimp only
 rw[tc_bind]
 refine cM (ret (cM (ret ?_)))
 refine ret (a:=Fin.again (.call (.builtin "type.__call__") ⟨.ref C::rest,[]⟩)) ⟨rfl,rfl,?_⟩
 refine call_builtin_at (JH _ (by decide+kernel)) (uG _) entry_typeCall (any (check_slot tc_kind tc_split typ (tc_args _ _ _) ?_))
 unfold bV.«type.__call__»
 have hm:Looks (aE prog w) h (mroOf (.ref C)) cd.mro:=((Looks.ld (part:=none) hC).andThen .now).andThen .now
 dsimp only
 rw[bC (show ¬((du C==cS "type")=true) from aX)]
 refine cM (any (hm.here ?_))
 rw[e4,bC aX]
 refine cM (any (made.here ?_))
 dsimp only
 refine cM (ret (cM (holds (any (vZ (new_K Y' hi (.inl IZ) ?_))))))
 dsimp only
 have k:∀b o,h.get? b=af o->((h.push qO).push (gE C h.objs.size)).get? b=af o:=λ b o e=>aA _ (aA _ e)
 have hx:((h.push qO).push (gE C h.objs.size)).get? (h.objs.size+1)=af (gE C h.objs.size):=by heap_get
 have t1:Looks (aE prog w) ((h.push qO).push (gE C h.objs.size)) (rR (.ref (h.objs.size+1))) (.ref C):=(Looks.ld hx).andThen .now
 have s1:=self.keeps k
 have i1:=hi.keeps k
 have b1:=(hb (.ref (h.objs.size+1))).keeps k
 refine cM (any ?_)
 unfold rN
 refine aj (t1.here ?_)
 refine s1.here ?_
 rw[iP,bC aX]
 refine cM (holds ?_)
 unfold callSpecial? uf
 refine cM (cM (any (t1.here (any (i1.here ?_)))))
 dsimp only
 refine holds (cM (any (b1.here ?_)))
 dsimp only
 refine cM (calls (eu hq λ r s' z=>?_))
 rcases r with e|(v|_|_|_)<;>first|exact z.elim|skip
 obtain⟨rfl,z⟩:=z
 exact ret (ret z)
end
end X
theorem Mw:mroOf (.type "bytearray")=pure [.type "bytearray", .type "object"]:=by rw[mroOf_type]; kernel_rfl
theorem yk:hZ (.type "bytearray") "__new__"=pure (af (.builtin "bytearray.__new__")):=by rw[bF,a4]; kernel_rfl
theorem AR:Bx "bytearray" "__init__" "bytearray.__init__":=
 .of (owner:="bytearray") (n:="__init__") (by rw[bF,a4]; kernel_rfl) (by decide+kernel) (by decide+kernel) (by decide+kernel)
  (by first|exact .inl (by decide+kernel)|exact .inr (by decide+kernel)) (by rw[cj]; kernel_rfl)
theorem yN:TypeCalled "bytearray" "bytearray.__new__" "bytearray.__init__":=
 ⟨by decide+kernel,by decide+kernel,⟨_,_,Mw⟩,madeBy_type Mw yk (by decide+kernel),by decide+kernel,by rw[cj]; kernel_rfl,AR⟩
theorem DN:checkTypeCall "bytearray" ⟨[],[]⟩=pure ():=by kernel_rfl
theorem Fn:iz "bytearray.__new__" ⟨[.type "bytearray"],[]⟩=pure ():=by kernel_rfl
theorem z8:fC table "bytearray.__new__"=af bV.«list.__new__»:=
 Ef (id':="list.__new__") (by rw[fastTable_eq_tree]; kernel_rfl) (by decide+kernel) (by decide+kernel) (by rw[fastTable_eq_tree]; kernel_rfl)
theorem sX:plainId "bytearray.__new__"=true:=by decide+kernel
theorem yg:fC table "bytearray.__init__"=af bV.«bytearray.__init__»:=eP (by kernel_rfl)
theorem zP(a:ak):hW "bytearray.__init__" ⟨[a],[]⟩:=by unfold hW; kernel_rfl
theorem Ft(args:Args):Dd (.builtin "bytearray.__init__" args)=true:=by show(!rW.contains "bytearray.__init__")=true; decide+kernel
set_option maxRecDepth 1000000 in
set_option maxHeartbeats 4000000 in
theorem AJ:("bytearray.__new__".splitOn ".__new__").headD ""="bytearray":=by simp+decide [String.splitOn,String.splitOnAux]
theorem DI:isSubtype (.type "bytearray") (.type "bytearray")=pure true:=by rw[cj]; kernel_rfl
theorem wj:hZ (.type "bytearray") "__release_buffer__"=pure (af (.builtin "bytearray.__release_buffer__")):=by rw[bF,a4]; kernel_rfl
section
variable{prog:aK}{w:bw}{A:bn}{s:ar}
theorem B8{Q₁:ak->ar->Prop}
  (h:Q₁ (.ref s.heap.objs.size) {s with heap:=s.heap.push {cls:= .type "bytearray",data:= .bytearray #[]}}):
  codeAny (aE prog w) A (.call (.builtin "bytearray.__new__") ⟨[.type "bytearray"],[]⟩) (wants Q₁ dw) s:=by
 refine Bz ?_
 show aH _ A.in1 (do iz "bytearray.__new__" ⟨[.type "bytearray"],[]⟩; qP (.builtin "bytearray.__new__" ⟨[.type "bytearray"],[]⟩)) _ _ s
 refine aj (bu Fn (aw ⟨kX sX _,codeAny_builtin_stack z8 rfl λ p st=>?_⟩))
 rw[eC sX _]
 have Ak:=DI
 have acm:=AJ
 obtain⟨hp,g,d,tk,os⟩:=s
 dsimp only
 rw[acm]
 wp_walk
 exact h
theorem O0{M:iy}{A:bn}{a:au}{Q:PySem.Fin->ar->Prop}(h:s.heap.get? a=af (nO []))
  (q:∀h',h'.get? a=af (nO [])->(∀b o,b≠a->s.heap.get? b=af o->h'.get? b=af o)->Q (.done (.ret .none)) {s with heap:=h'}):
  cL true M A (bV.«bytearray.__init__» ⟨[.ref a],[]⟩) Q s:=by
 have e0:Looks M s.heap (Builtin.Bytes.ownRelease (.ref a)) false:=by
  have t0:Looks M s.heap (rR (.ref a)) (.type "bytearray"):=(Looks.ld h).andThen .now
  unfold Builtin.Bytes.ownRelease Builtin.Bytes.slotIsOwn uf rN
  refine Looks.andThen (show Looks M s.heap _ true from ?_) .now
  refine Looks.andThen (t0.andThen (Looks.of_pure wj)) ?_
  dsimp only
  rw[bC (by decide+kernel)]
  refine t0.andThen (Looks.of_pure ?_)
  rw[cj]; kernel_rfl
 have bind:Builtin.Bytes.bindOptional "bytearray.__init__" "bytearray" ["source","encoding","errors"] [] []=pure [none,none,none]:=by kernel_rfl
 have e:cL true M A (Builtin.Bytes.exported (.ref a)<||>(do return (← Builtin.Bytes.exportsOf (.ref a)) > 0)) (λ b s'=>b=false/\s'=s) s:=by
  refine X.cM (uz ?_)
  refine X.any ?_
  show aH M A (Builtin.Bytes.exportsOf (.ref a)>>=λ n=>pure (decide (n > 0))) _ _ s
  unfold Builtin.Bytes.exportsOf
  exact aj (aj (iU h (aw (aw ⟨rfl,rfl⟩))))
 unfold bV.«bytearray.__init__»
 dsimp only
 refine X.cM (X.any (e0.here ?_))
 rw[bC aX,bind]
 refine X.cM (X.ret ?_)
 refine X.cM (X.any (aw ?_))
 refine X.cM (X.any (aw ?_))
 refine X.cM (X.mono e λ b s' z=>?_)
 obtain⟨rfl,rfl⟩:=z
 rw[bC aX]
 refine X.cM (X.any (qo h (cs:=[]) rfl (oE _) λ h' e1 e2=>?_))
 exact X.cM (X.any (aw (X.ret (q h' e1 e2))))
namespace X
theorem KP{J:aC}{R:iT->ar->Prop}{id:cQ}{args:Args}{b:bV}(hb:fC table id=af b)
  (h:cL J (aE prog w) (A.under (.builtin id args)) (b args) (λ fin s'=>match fin with | .done f=>R (.ok f) s' | .again c'=>c'.quiet=true/\Dd c'=true/\dP J (aE prog w) A c' R s') s):
  dP J (aE prog w) A (.builtin id args) R s:=by
 refine tree ?_
 show cL J _ _ (match fC table id with|some b=>b args|none=>Bg ((Ei id "#data").getD id)) _ _
 rw[hb]; exact h
theorem xa(args:Args):(D1 "type.__call__" args).quiet=true:=JH _ (by decide+kernel)
theorem yM{J:aC}{T newId E3:cQ}{args:ae ak}{Q Q₁:ak->ar->Prop}(ft:TypeCalled T newId E3)
  (hct:checkTypeCall T ⟨args,[]⟩=pure ())
  (u8:∀A',codeAny (aE prog w) A' (.call (.builtin newId) ⟨.type T::args,[]⟩) (wants Q₁ dw) s)
  (Yu:∀obj s₁,Q₁ obj s₁->s₁.TypeIs obj T/\cL J (aE prog w) A.in1 (call (.builtin E3) (obj::args) []) (λ v s'=>v= .none/\Q obj s') s₁):
  cL J (aE prog w) A (call (.type T) args []) Q s:=by
 obtain⟨c,tl,ach⟩:=ft.mro
 have Yt:=ft.made
 have Ak:=ft.sub
 have h1:=ft.notType
 have h2:=ft.canCreate
 refine calls (tree ?_)
 show cL J _ _ (D5 (.type T) _) _ _
 refine ret (a:=Fin.again (.builtin "type.__call__" ⟨.type T::args,[]⟩)) ⟨xa _,uG _,KP F.entry_type_call ?_⟩
 rw[Around.under_plain (weight_type_call_type T args []) rfl]
 unfold bV.«type.__call__»
 dsimp only
 rw[bC (by rw[h1]; exact aX)]
 rw[bC (by rw[h2]; exact aX),hct]
 refine cM (ret ?_)
 rw[ach]
 refine cM (ret ?_)
 rw[bC (by simp),Yt]
 refine cM (ret (cM (ret (cM (holds (any (vZ (codeAny_mono (u8 _) λ r s₁ z=>?_))))))))
 rcases r with e|(obj|_|_|_)<;>first|exact z.elim|skip
 rename_i obj
 obtain⟨hT,hn⟩:=Yu obj s₁ z
 refine cM (any (eQ hT Ak ?_))
 rw[iP,bC aX]
 refine cM (holds ?_)
 unfold callSpecial?
 refine cM (any (cX hT ft.init.lookup ?_))
 dsimp only
 refine holds ?_
 rw[ft.init.bind]
 refine cM (ret (cM ?_))
 show cL J _ _ (call (.builtin E3) (obj::args) []) _ _
 refine mono hn λ v s' z=>?_
 obtain⟨e,q⟩:=z
 subst e
 exact ret (ret q)
theorem EF{Q:ak->ar->Prop}(q:∀h',h'.get? s.heap.objs.size=af (nO [])->(∀b o,s.heap.get? b=af o->h'.get? b=af o)->Q (.ref s.heap.objs.size) {s with heap:=h'}):
  cL true (aE prog w) A (call (.type "bytearray") [] []) Q s:=by
 refine yM (Q₁:=λ v s'=>v= .ref s.heap.objs.size/\s'={s with heap:=s.heap.push (nO [])}) yN DN (λ A'=>B8 ⟨rfl,rfl⟩) λ obj s₁ z=>?_
 obtain⟨rfl,rfl⟩:=z
 have hh:(s.heap.push (nO [])).get? s.heap.objs.size=af (nO []):=aN _ rfl
 refine⟨⟨_,hh,rfl⟩,rX yN.init ⟨_,hh,rfl⟩ yg (Ft _) (O0 hh λ h' e1 e2=>?_) (zP _)⟩
 refine⟨.none,rfl,rfl,q h' e1 λ b o e=>e2 b o ?_ (aA _ e)⟩
 exact dO (b9 e)
end X
end
theorem BW:hZ (.type "bytearray") "__bytes__"=pure none:=by rw[bF,a4]; kernel_rfl
theorem BX:hZ (.type "bytearray") "__index__"=pure none:=by rw[bF,a4]; kernel_rfl
theorem tK:hZ (.type "bytearray") "__buffer__"=pure (af (.builtin "bytearray.__buffer__")):=by rw[bF,a4]; kernel_rfl
section
variable{prog:aK}{w:bw}{A:bn}{s:ar}{a:au}{bs:ae b7}
theorem x_{M:iy}(h:s.heap.get? a=af (nO bs)):Looks M s.heap (Builtin.Bytes.ownRelease (.ref a)) false:=by
 have t0:Looks M s.heap (rR (.ref a)) (.type "bytearray"):=(Looks.ld h).andThen .now
 unfold Builtin.Bytes.ownRelease Builtin.Bytes.slotIsOwn uf rN
 refine Looks.andThen (show Looks M s.heap _ true from ?_) .now
 refine Looks.andThen (t0.andThen (Looks.of_pure wj)) ?_
 dsimp only
 rw[bC (by decide+kernel)]
 refine t0.andThen (Looks.of_pure ?_)
 rw[cj]; kernel_rfl
theorem x9{M:iy}(h:s.heap.get? a=af (nO bs)):Looks M s.heap (Builtin.Bytes.slotIsOwn (.ref a) "__buffer__") true:=by
 have t0:Looks M s.heap (rR (.ref a)) (.type "bytearray"):=(Looks.ld h).andThen .now
 unfold Builtin.Bytes.slotIsOwn uf rN
 refine Looks.andThen (t0.andThen (Looks.of_pure tK)) ?_
 dsimp only
 rw[bC (by decide+kernel)]
 refine t0.andThen (Looks.of_pure ?_)
 rw[cj]; kernel_rfl
theorem yK{M:iy}{id:cQ}{full:aC}{Q:aq (bD b7)->ar->Prop}(h:s.heap.get? a=af (nO bs))(q:Q (af bs.toArray) s):aH M A (Builtin.Bytes.buffer? id (.ref a) full) Q dw s:=by
 unfold Builtin.Bytes.buffer?
 refine aj (cX (dd h) tK ?_)
 dsimp only
 refine aj ((x9 h).here ?_)
 rw[iP,bC aX]
 refine aj (cX (dd h) tK ?_)
 refine aj ((x_ h).here ?_)
 rw[bC aX]
 exact aj (jT h (aw q))
theorem ID{Q:ak->ar->Prop}(h:s.heap.get? a=af (nO bs))(hz:bs.length<=gA)
  (q:Q (.bytes bs.toArray s.toks) {s with toks:=s.toks+1}):
  codeAny (aE prog w) A (.call (.builtin "bytes.__new__") ⟨[.type "bytes", .ref a],[]⟩) (wants Q dw) s:=by
 refine Bz ?_
 show aH _ A.in1 (do iz "bytes.__new__" ⟨[.type "bytes", .ref a],[]⟩; qP (.builtin "bytes.__new__" ⟨[.type "bytes", .ref a],[]⟩)) _ _ s
 refine aj (bu (F.bm_newCall _) (aw ⟨kX F.bm_plain _,k8 F.bm_entry ?_⟩))
 rw[eC F.bm_plain _]
 have hT:=dd h
 unfold bV.«bytes.__new__»
 refine aj (bu (a:=true) rfl ?_)
 refine Bc rfl ?_
 refine aj (bu F.bm_sub ?_)
 refine Bc rfl ?_
 refine aj (bu (F.bm_bind _) ?_)
 refine aj (bu (a:=()) rfl ?_)
 refine aj (bu (a:=()) rfl ?_)
 refine Bc rfl ?_
 refine aj (cX hT BW ?_)
 refine aj (aj ?_)
 show aH _ _ (load a>>=_) _ _ _
 refine aj (iU h ?_)
 refine aw (aw ?_)
 refine Bc rfl ?_
 refine aj (cX hT BX ?_)
 refine bm_if_true rfl ?_
 first
  |show aH _ _ (Builtin.Bytes.buffer? "bytes.__new__" (.ref a) true>>=_) _ _ _
  |(refine aj ?_; show aH _ _ (Builtin.Bytes.buffer? "bytes.__new__" (.ref a) true>>=_) _ _ _)
 refine aj (yK h ?_)
 dsimp only
 refine aj (mE (aj (wpAny_mkBytes ?_ (by rw[cT]; exact hz))))
 show aH _ _ (if (cS "bytes"==cS "bytes")=true then _ else _) _ _ _
 refine bm_if_true (by decide) ?_
 first
   |exact aw q
   |exact aw (aw q)
   |exact aj (aw (aw q))
theorem yc{Q:ak->ar->Prop}(h:s.heap.get? a=af (nO bs))(hz:bs.length<=gA)
  (q:Q (.bytes bs.toArray s.toks) {s with toks:=s.toks+1}):aH (aE prog w) A (call (.type "bytes") [.ref a]) Q dw s:=by
 refine Ed (Q₁:=λ obj s₁=>s₁.TypeIs obj "bytes"/\Q obj s₁) F.bm_called (F.bm_typeCall _) F.entry_object_init
  (ID h hz ⟨gH _ _ _,q⟩) λ obj s₁ bH=>?_
 exact⟨bH.1,F.args_object_init_2 obj _,object_init_meets F.bm_called.init.lookup F.bm_called.made (by decide) prog w A.in1 _ s₁ ⟨bH.1,rfl,bH.2⟩⟩
end
theorem ry:Bx "bytes" "count" "bytes.count":=
 .of (owner:="bytes") (n:="count") (by rw[bF,a4]; kernel_rfl) (by decide+kernel) (by decide+kernel) (by decide+kernel)
  (by first|exact .inl (by decide+kernel)|exact .inr (by decide+kernel)) (by rw[cj]; kernel_rfl)
theorem wx:fC table "bytes.count"=af bV.«bytes.count»:=eP (by kernel_rfl)
theorem x7(a b:ak):hW "bytes.count" ⟨[a,b],[]⟩:=by unfold hW; kernel_rfl
theorem yu:rR (.builtin "bytes.count")=pure (.type "method_descriptor"):=by show builtinType _=_; rw[uW]; kernel_rfl
theorem yn:PlainAttrs "bytes":=
 ⟨⟨"bytes.__getattribute__",by rw[bF,a4]; kernel_rfl,by decide+kernel⟩,by rw[bF,a4]; kernel_rfl⟩
theorem DE:Bx "bytes" "__len__" "bytes.__len__":=
 .of (owner:="bytes") (n:="__len__") (by rw[bF,a4]; kernel_rfl) (by decide+kernel) (by decide+kernel) (by decide+kernel)
  (by first|exact .inl (by decide+kernel)|exact .inr (by decide+kernel)) (by rw[cj]; kernel_rfl)
theorem z_:fC table "bytes.__len__"=af bV.«bytes.__len__»:=eP (by kernel_rfl)
theorem BU(a:ak):hW "bytes.__len__" ⟨[a],[]⟩:=by unfold hW; kernel_rfl
theorem uJ:Bx "bytearray" "__len__" "bytearray.__len__":=
 .of (owner:="bytearray") (n:="__len__") (by rw[bF,a4]; kernel_rfl) (by decide+kernel) (by decide+kernel) (by decide+kernel)
  (by first|exact .inl (by decide+kernel)|exact .inr (by decide+kernel)) (by rw[cj]; kernel_rfl)
theorem z7:fC table "bytearray.__len__"=af bV.«bytearray.__len__»:=eP (by kernel_rfl)
theorem BR(a:ak):hW "bytearray.__len__" ⟨[a],[]⟩:=by unfold hW; kernel_rfl
theorem xo:Bx "bytearray" "__ne__" "bytearray.__ne__":=
 .of (owner:="bytearray") (n:="__ne__") (by rw[bF,a4]; kernel_rfl) (by decide+kernel) (by decide+kernel) (by decide+kernel)
  (by first|exact .inl (by decide+kernel)|exact .inr (by decide+kernel)) (by rw[cj]; kernel_rfl)
theorem Ch:fC table "bytearray.__ne__"=af bV.«bytearray.__ne__»:=eP (by kernel_rfl)
theorem Es(a b:ak):hW "bytearray.__ne__" ⟨[a,b],[]⟩:=by unfold hW; kernel_rfl
theorem ri:hZ (.type "int") "__buffer__"=pure none:=by rw[bF,a4]; kernel_rfl
theorem tL:hZ (.type "bytes") "__buffer__"=pure (af (.builtin "bytes.__buffer__")):=by rw[bF,a4]; kernel_rfl
theorem EE:hZ (.type "bytes") "__release_buffer__"=pure none:=by rw[bF,a4]; kernel_rfl
noncomputable def cnt(b:bD b7)(i:Int):Int:=
 if (Builtin.Bytes.window b.size none none).2 - (Builtin.Bytes.window b.size none none).1 < (#[i.toNat.toUInt8]:bD b7).size then 0
 else (Builtin.Bytes.occurrences b #[i.toNat.toUInt8] (Builtin.Bytes.window b.size none none).1.toNat (Builtin.Bytes.window b.size none none).2.toNat).length
section
variable{prog:aK}{w:bw}{A:bn}{s:ar}{a:au}{bs:ae b7}
theorem ED{M:iy}{A:bn}{id:cQ}{i:Int}{u:kx}{full:aC}{Q:aq (bD b7)->ar->Prop}(q:Q none s):aH M A (Builtin.Bytes.buffer? id (.int i u) full) Q dw s:=by
 unfold Builtin.Bytes.buffer?
 refine aj (cX (T:="int") (mD s i u) ri ?_)
 refine aj (cX (T:="int") (mD s i u) ri ?_)
 exact aw q
theorem AL{M:iy}{A:bn}{b:bD b7}{t u:kx}{i:Int}{Q:bD b7×bD b7×aq (Nat×Nat)->ar->Prop}(h0:0<=i)(h1:i < 256)
  (q:Q (b,#[i.toNat.toUInt8],if (Builtin.Bytes.window b.size none none).2 - (Builtin.Bytes.window b.size none none).1 < (#[i.toNat.toUInt8]:bD b7).size then none else af ((Builtin.Bytes.window b.size none none).1.toNat,(Builtin.Bytes.window b.size none none).2.toNat)) s):
  aH M A (Builtin.Bytes.searchArgs .bytes "count" ⟨[.bytes b t, .int i u],[]⟩) Q dw s:=by
 unfold Builtin.Bytes.searchArgs
 refine aj (bu (a:=(.bytes b t,[.int i u])) rfl ?_)
 dsimp only
 refine aj (bu (a:=none) rfl ?_)
 refine aj (bu (a:=none) rfl ?_)
 refine aj (ED ?_)
 dsimp only[List.headD_cons]
 refine aj (cX (T:="int") (mD s i u) JK ?_)
 rw[bC (by simp)]
 refine aj (bu (a:=i) rfl ?_)
 rw[bC (by rw[Bool.or_eq_true,cY,cY]; omega)]
 refine aj (aw (aj (bu (a:=b) rfl ?_)))
 exact aw q
theorem B3{b:bD b7}{t u:kx}{i:Int}{Q:ak->ar->Prop}(h0:0<=i)(h1:i < 256)(q:Q (.int (cnt b i) s.toks) {s with toks:=s.toks+1}):
  aH (aE prog w) A (call (.builtin "bytes.count") [.bytes b t, .int i u]) Q dw s:=by
 have hT:s.TypeIs (.bytes b t) "bytes":=gH _ _ _
 refine cA ry hT wx ?_ (x7 _ _)
 unfold bV.«bytes.count» Builtin.Bytes.countM
 refine aj (AL h0 h1 ?_)
 unfold cnt at q
 dsimp only
 split
 ·rename_i hh
  split at hh
  ·rename_i h2
   rw[dq h2] at q
   exact aj (lB (aw ⟨_,rfl,q⟩))
  ·cases hh
 ·rename_i lo hi hh
  split at hh
  ·cases hh
  ·rename_i h2
   cases hh
   rw[bC h2] at q
   rw[bC (by simp)]
   exact aj (lB (aw ⟨_,rfl,q⟩))
theorem Ve{b:bD b7}{t:kx}{Q:ak->ar->Prop}(hf:b.size < 2 ^ 62)(q:Q (.int b.size (s.toks+1)) {s with toks:=s.toks+1+1}):
  aH (aE prog w) A (call (.builtin "len") [.bytes b t]) Q dw s:=by
 refine call_len_gives (n:=b.size) (gH _ _ _) DE z_ (BU _) (Gives.of_wp λ M A E s Q h=>?_) (by omega) (by omega) q
 unfold bV.«bytes.__len__»
 refine aj (bu (a:=(.bytes b t,[])) rfl ?_)
 refine aj (bu (a:=b) rfl ?_)
 exact aj (lB (aw ⟨_,rfl,h⟩))
theorem Vd{Q:ak->ar->Prop}(h:s.heap.get? a=af (nO bs))(hf:bs.length < 2 ^ 62)(q:Q (.int bs.length (s.toks+1)) {s with toks:=s.toks+1+1}):
  aH (aE prog w) A (call (.builtin "len") [.ref a]) Q dw s:=by
 refine nF kind_len plain_len entry_len (args_len1 _) ?_
 unfold bV.«len»
 refine aj (m:=oneArg "len" _) (aw ?_)
 refine aj (m:=callSpecial? (.ref a) (bT "__len__")) (de (name:=bT "__len__") (dd h) uJ
  (cA uJ (dd h) z7 ?_ (BR _)))
 unfold bV.«bytearray.__len__»
 refine aj (bu (a:=(.ref a,[])) rfl ?_)
 refine aj (jT h ?_)
 refine aj (lB (aw ⟨_,rfl,?_⟩))
 rw[cT]
 refine aj (bU (aw ?_))
 refine aj (wpAny_letGo ?_)
 show aH _ _ (if (bs.length:Int) < 0 then _ else _) _ _ _
 rw[bC (by omega)]
 show aH _ _ (if (bs.length:Int)>=2 ^ 63 then _ else _) _ _ _
 rw[bC (by omega)]
 exact aj (lB (aw ⟨_,rfl,q⟩))
theorem order_eq:∀x y:ae b7,(Builtin.Bytes.order x y != .eq)=(x !=y)
 |[],[]=>rfl
 |[],_::_=>rfl
 |_::_,[]=>rfl
 |x::xs,y::ys=>by
  have ih:=order_eq xs ys
  unfold Builtin.Bytes.order
  by_cases h1:x < y
  ·rw[dq h1]
   have:x≠y:=λ e=>by subst e; exact bt h1 (by simp)
   simp [bne,this]
  ·rw[bC h1]
   by_cases h2:x > y
   ·rw[dq h2]
    have:x≠y:=λ e=>by subst e; exact bt h2 (by simp)
    simp [bne,this]
   ·rw[bC h2,ih]
    have:x=y:=UInt8.le_antisymm (by simpa using h2) (by simpa using h1)
    subst this
    simp [bne]
theorem ya{M:iy}{b:bD b7}{t:kx}:Looks M s.heap (Builtin.Bytes.slotIsOwn (.bytes b t) "__buffer__") true:=by
 have t0:Looks M s.heap (rR (.bytes b t)) (.type "bytes"):=Looks.of_pure rfl
 unfold Builtin.Bytes.slotIsOwn uf rN
 refine Looks.andThen (t0.andThen (Looks.of_pure tL)) ?_
 dsimp only
 rw[bC (by decide+kernel)]
 refine t0.andThen (Looks.of_pure ?_)
 rw[cj]; kernel_rfl
theorem yb{M:iy}{b:bD b7}{t:kx}:Looks M s.heap (Builtin.Bytes.ownRelease (.bytes b t)) false:=by
 have t0:Looks M s.heap (rR (.bytes b t)) (.type "bytes"):=Looks.of_pure rfl
 unfold Builtin.Bytes.ownRelease Builtin.Bytes.slotIsOwn uf rN
 refine Looks.andThen (show Looks M s.heap _ true from ?_) .now
 refine Looks.andThen (t0.andThen (Looks.of_pure EE)) ?_
 exact .now
theorem IC{M:iy}{A:bn}{id:cQ}{full:aC}{b:bD b7}{t:kx}{Q:aq (bD b7)->ar->Prop}(q:Q (af b) s):aH M A (Builtin.Bytes.buffer? id (.bytes b t) full) Q dw s:=by
 have hT:s.TypeIs (.bytes b t) "bytes":=gH _ _ _
 unfold Builtin.Bytes.buffer?
 refine aj (cX hT tL ?_)
 dsimp only
 refine aj (ya.here ?_)
 rw[iP,bC aX]
 refine aj (cX hT tL ?_)
 refine aj (yb.here ?_)
 rw[bC aX]
 exact aj (bu (a:=b) rfl (aw q))
theorem Xs{cs:ae b7}{t:kx}{Q:ak->ar->Prop}(h:s.heap.get? a=af (nO bs))(hu:A.units < qQ)(q:Q (.bool (bs !=cs)) s):
  aH (aE prog w) A (dz .NotEq (.ref a) (.bytes cs.toArray t)) Q dw s:=by
 show aH _ _ (richCompare .NotEq (.ref a) (.bytes cs.toArray t)) _ _ _
 have ha:=dd h
 have hb:s.TypeIs (.bytes cs.toArray t) "bytes":=gH _ _ _
 have Ak:isSubtype (.type "bytes") (.type "bytearray")=pure false:=by rw[cj]; kernel_rfl
 have IZ:(cS "bytearray" !=cS "bytes")=true:=by decide
 rcases hi:cmpInfo .NotEq with⟨sym,f,r⟩
 have hf:f=bT "__ne__":=by cases hi; rfl
 subst hf
 unfold richCompare
 rw[hi]
 dsimp only
 rw[ha.oneThing_none]
 dsimp only
 refine bU ?_
 refine aj (wpAny_cRoomFor hu ?_)
 refine aj (j8 ha (aj (j8 hb ?_)))
 rw[IZ,dq rfl]
 refine aj (bu Ak ?_)
 rw[bC aX]
 refine aj (wpAny_tryCompare_slot ha xo (cA xo ha Ch ?_ (Es _ _)))
 unfold bV.«bytearray.__ne__»
 show aH _ _ (slotArgs "__ne__" 1 ⟨[.ref a, .bytes cs.toArray t],[]⟩>>=_) _ _ _
 refine aj (bu (a:=(.ref a,[.bytes cs.toArray t])) rfl ?_)
 dsimp only
 refine aj (yK h ?_)
 dsimp only
 unfold Builtin.Bytes.bufferQuiet?
 refine aj (aj (kY (c7 (IC ?_) (λ aa aa z=>z) λ aa aa z=>z.elim)))
 refine aw ?_
 have e:Builtin.Bytes.holds "__ne__" (Builtin.Bytes.order bs cs)=(bs !=cs):=by rw[← order_eq]; rfl
 refine aw ⟨_,rfl,λ z=>(nomatch z),aw ?_⟩
 show Q (.bool (Builtin.Bytes.holds "__ne__" (Builtin.Bytes.order bs cs))) s
 rw[e]; exact q
end
noncomputable def sw:ae Int->ae Int->aC
 |[],[]=>true
 |a::r,b::t=>aY (decide (a=b)) (sw r t) false
 |_,_=>false
theorem GW:∀{a b:ae Int},sw a b=true->a=b
 |[],[]=>λ aa=>rfl
 |[],_::_=>λ h=>ay h
 |_::_,[]=>λ h=>ay h
 |a::r,b::t=>λ h=>by
  by_cases q:a=b
  ·exact c2 q (GW ((ah (aY · (sw r t) false) (cz q)).symm.trans h))
  ·exact ay ((ah (aY · (sw r t) false) (dj q)).symm.trans h)
theorem Ci:∀{a:ae Int},sw a a=true
 |[]=>rfl
 |a::r=>(ah (aY · (sw r r) false) (cz rfl)).trans Ci
theorem Ld{a b:ae Int}(h:sw a b=false):a≠b:=λ e=>by rw[e,Ci] at h; cases h
theorem Pw(a b:ae Int):sw a b=decide (a=b):=by
 cases h:sw a b with
 |true=>exact(cz (GW h)).symm
 |false=>exact(dj (Ld h)).symm
noncomputable def Lc(a b:Int):aC:=decide (a=b)
abbrev lkI:ae Int->ae AV->Int->aq AV:=Ff Lc
abbrev qg:ae Int->Int->ae Int:=ny Lc
abbrev Do:ae Int->ae AV->Int->AV->ae AV:=jZ Lc
abbrev wR:ae (ae Int)->ae AV->ae Int->aq AV:=Ff sw
abbrev rq:ae (ae Int)->ae Int->ae (ae Int):=ny sw
abbrev w9:ae (ae Int)->ae AV->ae Int->AV->ae AV:=jZ sw
noncomputable def pH:ae (ae Int)->ae Int->aC
 |k::ks,x=>aY (sw k x) true (pH ks x)
 |[],_=>false
noncomputable def intsOf:ae AV->aq (ae Int)
 |[]=>af []
 | .int i::r=>match intsOf r with
  |some l=>af (i::l)
  |none=>none
 |_=>none
def Dg(a:AV)(K:ae Int->Prop):Prop:=match a with
 | .tup xs=>(match intsOf xs with
  |some k=>K k
  |none=>False)
 |_=>False
noncomputable def kT(a:AV):aq {k:ae Int // ∀K:ae Int->Prop,K k->Dg a K}:=match a with
 | .tup xs=>match h:intsOf xs with
  |some k=>af ⟨k,λ K z=>by show(match intsOf xs with|some k=>K k|none=>False); rw[h]; exact z⟩
  |none=>none
 |_=>none
noncomputable def intAt:ae Int->Nat->Int
 |v::_,0=>v
 |_::r,i+1=>intAt r i
 |[],_=>0
noncomputable def rowAt:ae (ae Int)->Nat->ae Int
 |v::_,0=>v
 |_::r,i+1=>rowAt r i
 |[],_=>[]
theorem y3:∀(l:ae Int) (i:Nat),i < l.length->l[i]?=af (intAt l i)
 |[],i,h=>bt h (mz _)
 |_::_,0,_=>rfl
 |_::r,i+1,h=>y3 r i (iw h)
theorem zr:∀(l:ae (ae Int)) (i:Nat),i < l.length->l[i]?=af (rowAt l i)
 |[],i,h=>bt h (mz _)
 |_::_,0,_=>rfl
 |_::r,i+1,h=>zr r i (iw h)
theorem wT:∀(l:ae AV) (i:Nat),i < l.length->l[i]?=af (fE l i)
 |[],i,h=>bt h (mz _)
 |_::_,0,_=>rfl
 |_::r,i+1,h=>wT r i (iw h)
noncomputable def setInt:ae Int->Nat->Int->ae Int
 |_::r,0,v=>v::r
 |u::r,i+1,v=>u::setInt r i v
 |[],_,_=>[]
theorem qJ:∀(l:ae Int) (i:Nat) (v:Int),setInt l i v=l.set i v
 |[],_,_=>rfl
 |_::_,0,_=>rfl
 |u::r,i+1,v=>ah (u::·) (qJ r i v)
theorem DB:∀(l:ae AV) (i:Nat) (v:AV),setAt l i v=l.set i v
 |[],_,_=>rfl
 |_::_,0,_=>rfl
 |u::r,i+1,v=>ah (u::·) (DB r i v)
def gR(n:Int)(len:Nat)(k:Prop):Prop:=need (0<=n/\n < len/\n < 4611686018427387904) k
def Yg(o:AO)(i:AV)(K:AV->Prop):Prop:=match o with
 | .lst xs=>kj i λ n=>gR n xs.length (K (fE xs n.toNat))
 | .il ns=>kj i λ n=>gR n ns.length (K (.int (intAt ns n.toNat)))
 | .ba bs=>kj i λ n=>gR n bs.length (K (.int (bs.getD n.toNat 0).toNat))
 | .iO ks vs=>kj i λ n=>Jb (lkI ks vs n) K
 | .bG ks vs=>Dg i λ k=>Jb (wR ks vs k) K
 |_=>False
def IU(a i:AV)(mem:ae AO)(K:AV->Prop):Prop:=match a with
 | .own p=>pJ mem p λ o=>Yg o i K
 | .lq xs=>kj i λ n=>gR n xs.length (K (.int (intAt xs n.toNat)))
 | .row xs=>kj i λ n=>gR n xs.length (K (.int (intAt xs n.toNat)))
 | .m9 xG=>kj i λ n=>gR n xG.length (K (.lq (rowAt xG n.toNat)))
 | .lst xs=>kj i λ n=>gR n xs.length (K (fE xs n.toNat))
 | .tup xs=>kj i λ n=>gR n xs.length (K (fE xs n.toNat))
 | .bG ks vs=>Dg i λ k=>Jb (wR ks vs k) K
 |_=>False
def ZT(o:AO)(p:Nat)(i v:AV)(σ:St)(K:St->Prop):Prop:=match o with
 | .lst xs=>kj i λ n=>gR n xs.length (K (σ.put p (.lst (setAt xs n.toNat v))))
 | .il ns=>kj i λ n=>kj v λ m=>gR n ns.length (K (σ.put p (.il (setInt ns n.toNat m))))
 | .ba bs=>kj i λ n=>kj v λ m=>gR n bs.length (need (0<=m/\m < 256/\bs.length < 1000000) (K (σ.put p (.ba (bs.set n.toNat (eG m.toNat))))))
 | .iO ks vs=>kj i λ n=>cK (bB ks.length 1000) (K (σ.put p (.iO (qg ks n) (Do ks vs n v))))
 | .bG ks vs=>Dg i λ k=>cK (bB ks.length 1000) (K (σ.put p (.bG (rq ks k) (w9 ks vs k v))))
 |_=>False
def Jt(a i v:AV)(σ:St)(K:St->Prop):Prop:=lL a λ p=>pJ σ.mem p λ o=>ZT o p i v σ K
section
variable{G:BM}{ρ:ae au}
theorem x3.u0{es:ae bf}{us:ae ak}{Q:ae bf->ae ak->Prop}(h:x3 [] es us)(f:Q [] []):Q es us:=(eH h)▸(gh h)▸f
theorem x3.uc{k:Int}{ks:ae Int}{es:ae bf}{us:ae ak}{Q:ae bf->ae ak->Prop}(h:x3 (k::ks) es us)(f:∀t u es us,x3 ks es us->Q (⟨hashInt k, .int k t,u⟩::es) (u::us)):Q es us:=
 aD h λ aa h=>h.elim λ aa h=>h.elim λ aa h=>h.elim λ aa h=>h.1▸h.2.1▸f _ _ _ _ h.2.2
theorem isInt_self{k:Int}{t:kx}:vk k (.int k t)=true:=by simp [vk]
noncomputable def Ge(prog:aK)(w:bw)(es:ae bf):Prop:=∀e∈es,∃k,(cE prog w).is k e.key=true/\e.hash=(cE prog w).hash k
theorem x3.pairs{prog:aK}{w:bw}:∀{ks:ae Int} {es:ae bf} {us:ae ak},x3 ks es us->Pairs (cE prog w) es (ks.zip us)/\Ge prog w es/\us.length=ks.length
 |[],_,_=>λ h=>h.u0 (Q:=λ es us=>Pairs (cE prog w) es ([].zip us)/\Ge prog w es/\us.length=0) ⟨.nil,λ aa h=>bt h bK,rfl⟩
 |k::ks,_,_=>λ h=>h.uc (Q:=λ es us=>Pairs (cE prog w) es ((k::ks).zip us)/\Ge prog w es/\us.length=ks.length+1) λ t u es us h=>
  have z:=x3.pairs (prog:=prog) (w:=w) h
  ⟨.cons (isInt_self (t:=t)) rfl z.1,λ e he=>(bQ.mp he).elim (λ q=>q.symm▸⟨k,isInt_self (t:=t),rfl⟩) (z.2.1 e),ah (·+1) z.2.2⟩
theorem x3.of{prog:aK}{w:bw}{es:ae bf}{kvs:ae (Int×ak)}(h:Pairs (cE prog w) es kvs):Ge prog w es->x3 (kvs.map (·.1)) es (kvs.map (·.2)):=by
 induction h with
 |nil=>exact λ aa=>⟨rfl,rfl⟩
 |@cons e kv es kvs h1 h2 _ ih=>
  intro hk
  obtain⟨k,hk1,hk2⟩:=hk e aR
  obtain rfl:=(cE prog w).inj _ _ _ hk1 h1
  obtain⟨t,ht⟩:=Value.isInt_shape hk1
  obtain⟨hh,key,val⟩:=e
  dsimp only at ht h2 hk2
  subst ht h2 hk2
  exact⟨t,_,es,_,rfl,rfl,ih λ e he=>hk e (aP _ he)⟩
end
section
variable{κ β:Type}[DecidableEq κ]{e:κ->κ->aC}{G:BM}{ρ:ae au}{n:κ}{v:AV}
structure W0(e:κ->κ->aC):Prop where
 t:∀{a b},e a b=true->a=b
 f:∀{a b},e a b=false->a≠b
theorem Pv:W0 Lc:=⟨bg,oN⟩
theorem Uh:W0 sw:=⟨GW,Ld⟩
noncomputable def Cm(xs:ae (κ×β))(n:κ):aq β:=(xs.find? λ x=>decide (x.1=n)).map (·.2)
theorem yY{x:κ×β}{xs:ae (κ×β)}(h:x.1=n):Cm (x::xs) n=af x.2:=ah (ef λ x:κ×β=>x.2) (List.find?_cons_of_pos (p:=λ x:κ×β=>decide (x.1=n)) (cz h))
theorem wB{x:κ×β}{xs:ae (κ×β)}(h:x.1≠n):Cm (x::xs) n=Cm xs n:=ah (ef λ x:κ×β=>x.2) (List.find?_cons_of_neg (p:=λ x:κ×β=>decide (x.1=n)) λ z=>h (bg z))
theorem Av(E:W0 e){val:β->ak}:∀{xs:ae (κ×β)} {vs:ae AV},Ff e (xs.map (·.1)) vs n=af v->bJ G ρ vs (xs.map λ x=>val x.2)->∃b,Cm xs n=af b/\VR G ρ v (val b)
 |[],_=>λ h aa=>cm h
 |_::_,[]=>λ h aa=>cm h
 |x::xs,w::vs=>λ h hv=>condB h (λ q h=>⟨x.2,yY (E.t q),am h▸hv.cc.1⟩) λ q h=>(Av E h hv.cc.2).imp λ b=> .imp_left (wB (E.f q)).trans
noncomputable def sp(k:κ)(f:κ×β->κ×β)(nw:κ×β):ae (κ×β)->ae (κ×β)
 |[]=>[nw]
 |x::r=>if x.1=k then f x::r else x::sp k f nw r
theorem xf{f:κ×β->κ×β}{nw x:κ×β}{r:ae (κ×β)}(h:x.1=n):sp n f nw (x::r)=f x::r:=dq h
theorem tZ{f:κ×β->κ×β}{nw x:κ×β}{r:ae (κ×β)}(h:x.1≠n):sp n f nw (x::r)=x::sp n f nw r:=bC h
theorem vK(k:κ)(f:κ×β->κ×β)(nw:κ×β):∀l:ae (κ×β),(l.map (·.1)).Nodup->
  (if l.any (λ x=>decide (x.1=k)) then l.map (λ x=>if x.1=k then f x else x) else l++[nw])=sp k f nw l
 |[],_=>rfl
 |x::r,hn=>by
  have hn:=dU.mp hn
  by_cases h:x.1=k
  ·rw[xf h,List.any_cons,dq (g_.mpr (.inl (cz h))),A8,dq h]
   exact ah (f x::·) ((sr λ y hy=>bC λ(e:y.1=k)=>hn.1 (show x.1∈_ from(e.trans h.symm)▸hF (f:=λ x:κ×β=>x.1) hy)).trans (List.map_id r))
  ·rw[tZ h,← vK k f nw r hn.2,List.any_cons,dj h,Bool.false_or,A8,bC h]
   split<;>rfl
theorem Dy{f:κ×β->κ×β}{nw y:κ×β}:∀{l:ae (κ×β)},y∈sp n f nw l->y=nw\/y∈l\/∃x∈l,y=f x
 |[],h=> .inl (be.mp h)
 |x::r,h=>by
  by_cases q:x.1=n
  ·rw[xf q] at h
   exact(bQ.mp h).elim (λ e=> .inr (.inr ⟨x, .head _,e⟩)) λ h=> .inr (.inl (.tail _ h))
  ·rw[tZ q] at h
   exact(bQ.mp h).elim (λ e=> .inr (.inl (e▸ .head _))) λ h=>(Dy h).imp_right<| .imp (.tail _)<| .imp λ aa=> .imp_left (.tail _)
theorem qG(E:W0 e){val:β->ak}{f:β->β}{nb:β}{u:ak}(hu:VR G ρ v u)(h0:val nb=u)(hf:∀b,val (f b)=u):∀{xs:ae (κ×β)} {vs:ae AV},bJ G ρ vs (xs.map λ x=>val x.2)->
  (sp n (λ x=>(x.1,f x.2)) (n,nb) xs).map (·.1)=ny e (xs.map (·.1)) n/\bJ G ρ (jZ e (xs.map (·.1)) vs n v) ((sp n (λ x=>(x.1,f x.2)) (n,nb) xs).map λ x=>val x.2)
 |[],_=>λ aa=>⟨rfl, .cons (show VR G ρ v (val nb) from h0.symm▸hu) .nil⟩
 |_::_,[]=>λ hv=>bt (show _::_=[] from hv) (lP _ _)
 |x::xs,w::vs=>λ hv=>by
  rw[A8]
  cases q:e x.1 n with
  |true=>rw[xf (E.t q),qH q,oA q]; exact⟨rfl, .cons (show VR G ρ v (val (f x.2)) from(hf x.2).symm▸hu) hv.cc.2⟩
  |false=>rw[tZ (E.f q),mP q,lx q]; exact have z:=qG E hu h0 hf hv.cc.2; ⟨ah (x.1::·) z.1, .cons hv.cc.1 z.2⟩
theorem sm(E:W0 e):∀{ks:ae κ},ks.Nodup->(ny e ks n).Nodup/\∀x∈ny e ks n,x=n\/x∈ks
 |[],_=>⟨pg _ _,λ x h=> .inl (be.mp h)⟩
 |k::ks,h=>by
  have h:=dU.mp h
  have z:=sm E h.2
  cases q:e k n with
  |true=>rw[qH q]; exact⟨dU.mpr h,λ x=> .inr⟩
  |false=>rw[mP q]; exact⟨dU.mpr ⟨λ hm=>(z.2 k hm).elim (E.f q) h.1,z.1⟩,λ x hx=>(bQ.mp hx).elim (λ e=> .inr (e▸ .head _)) λ hx=>(z.2 x hx).imp_right (.tail _)⟩
end
section
variable{G:BM}{ρ:ae au}
theorem Ji{ks:ae Int}{vs:ae AV}{us:ae ak}{n:Int}{v:AV}{u:ak}(hv:bJ G ρ vs us)(hl:us.length=ks.length)(hu:VR G ρ v u):
  (sp n (λ kv=>(kv.1,u)) (n,u) (ks.zip us)).map (·.1)=qg ks n/\bJ G ρ (Do ks vs n v) ((sp n (λ kv=>(kv.1,u)) (n,u) (ks.zip us)).map (·.2)):=by
 have z:=qG (n:=n) Pv (val:=id) (f:=λ aa=>u) hu rfl (λ aa=>rfl) (xs:=ks.zip us) (vs:=vs) (by rw[show((ks.zip us).map λ x=>id x.2)=us from List.map_snd_zip (aV hl)]; exact hv)
 rw[hJ (aV hl.symm)] at z
 exact z
theorem uI{n:Int}{ks:ae Int}(h:ks.Nodup):(qg ks n).Nodup/\∀x∈qg ks n,x=n\/x∈ks:=sm Pv h
end
def TK(G:BM)(k:ae Int)(a:au):Prop:=∃o vs,G a=af o/\pG o vs/\cx k vs.toList
section
variable{G:BM}{ρ:ae au}
theorem pE.u0{es:ae bf}{us:ae ak}{Q:ae bf->ae ak->Prop}(h:pE G [] es us)(f:Q [] []):Q es us:=(eH h)▸(gh h)▸f
theorem pE.uc{k:ae Int}{ks:ae (ae Int)}{es:ae bf}{us:ae ak}{Q:ae bf->ae ak->Prop}(h:pE G (k::ks) es us)(f:∀a u es us,TK G k a->pE G ks es us->Q (⟨FP k, .ref a,u⟩::es) (u::us)):Q es us:=
 aD h λ aa h=>h.elim λ o h=>h.elim λ vs h=>h.elim λ aa h=>h.elim λ aa h=>h.elim λ aa h=>h.1▸h.2.1▸f _ _ _ _ ⟨o,vs,h.2.2.1.1,h.2.2.1.2,h.2.2.2.1⟩ h.2.2.2.2
abbrev J_(prog:aK)(w:bw)(G:BM)(ks:ae (ae Int))(es:ae bf)(us:ae ak)(xs:ae (ae Int×au×ak)):Prop:=xs.map (·.1)=ks/\xs.map (·.2.2)=us/\es=xs.map (entryOfKey (g9 (cE prog w)))/\∀x∈xs,TK G x.1 x.2.1
theorem pE.rows{prog:aK}{w:bw}:∀{ks:ae (ae Int)} {es:ae bf} {us:ae ak},pE G ks es us->∃xs,J_ prog w G ks es us xs
 |[],_,_=>λ h=>h.u0 (Q:=λ es us=>∃xs,J_ prog w G [] es us xs) ⟨[],rfl,rfl,rfl,λ aa h=>bt h bK⟩
 |k::ks,_,_=>λ h=>h.uc (Q:=λ es us=>∃xs,J_ prog w G (k::ks) es us xs) λ a u es us x h=>(pE.rows (prog:=prog) (w:=w) h).elim λ xs z=>
  ⟨(k,a,u)::xs,ah (k::·) z.1,ah (u::·) z.2.1,ah (⟨FP k, .ref a,u⟩::·) z.2.2.1,λ y hy=>(bQ.mp hy).elim (λ e=>e.symm▸x) (z.2.2.2 y)⟩
theorem pE.of{prog:aK}{w:bw}:∀{xs:ae (ae Int×au×ak)},(∀x∈xs,TK G x.1 x.2.1)->pE G (xs.map (·.1)) (xs.map (entryOfKey (g9 (cE prog w)))) (xs.map (·.2.2))
 |[]=>λ aa=>⟨rfl,rfl⟩
 |x::xs=>λ h=>(h x (.head _)).elim λ o z=>z.elim λ vs z=>⟨x.2.1,o,vs,x.2.2,_,_,rfl,rfl,⟨z.1,z.2.1⟩,z.2.2,pE.of λ y hy=>h y (.tail _ hy)⟩
theorem CR{prog:aK}{w:bw}:∀{k:ae Int} {vs:ae ak},cx k vs->ItemsAre (cE prog w) k vs
 |[],_=>λ h=>h.u0 (Q:=λ vs=>ItemsAre (cE prog w) [] vs) .nil
 |i::k,_=>λ h=>h.uc (Q:=λ vs=>ItemsAre (cE prog w) (i::k) vs) λ t r h=> .cons (isInt_self (t:=t)) (CR h)
theorem TK.key{prog:aK}{w:bw}{k:ae Int}{a:au}{h:Heap}(x:TK G k a)(kg:∀a o,G a=af o->h.get? a=af o):(g9 (cE prog w)).is h k a:=by
 exact x.elim λ o x=>x.elim λ vs x=>x.2.1.2.elim λ n h3=>⟨o,vs,n,kg _ _ x.1,x.2.1.1,h3,CR x.2.2⟩
theorem LY{x:AV}{r:ae AV}{k:ae Int}{Q:Prop}(h:intsOf (x::r)=af k)(f:∀i l,x= .int i->intsOf r=af l->i::l=k->Q):Q:=by
 rcases x with _|_|_|i|_|_|_|_|_|_|_|_|_|_|_|_|_|_
 case int=>
  have h:(match intsOf r with|some l=>af (i::l)|none=>none)=af k:=h
  cases q:intsOf r with
  |none=>rw[q] at h; exact cm h
  |some l=>rw[q] at h; exact f i l rfl q (am h)
 all_goals exact cm h
theorem VR.iuE{a:AV}{i:Int}{v:ak}{Q:ak->Prop}(h:VR G ρ a v)(e:a= .int i)(k:∀t,Q (.int i t)):Q v:=VR.iu (e▸h:VR G ρ (.int i) v) k
theorem Dg.e{a:AV}{K:ae Int->Prop}{Q:AV->Prop}(h:Dg a K)(k:∀xs l,intsOf xs=af l->K l->Q (.tup xs)):Q a:=by
 rcases a with _|_|_|_|_|_|_|_|_|_|xs|_|_|_|_|_|_|_
 case tup=>
  have h:(match intsOf xs with|some k=>K k|none=>False):=h
  cases q:intsOf xs with
  |none=>rw[q] at h; exact h.elim
  |some l=>rw[q] at h; exact k xs l q h
 all_goals exact h.elim
theorem ot:∀{xs:ae AV} {k:ae Int} {vs:ae ak},intsOf xs=af k->bJ G ρ xs vs->cx k vs
 |[],k,_=>λ h hv=>hv.u0 (Q:=λ vs=>cx k vs) (am h▸rfl)
 |x::r,k,_=>λ h hv=>hv.uc (Q:=λ vs=>cx k vs) λ u us hu hr=>LY h λ i l e q ek=>hu.iuE (Q:=λ u=>cx k (u::us)) e λ t=>ek▸cx.cons (ot q hr)
theorem sW{a:AV}{v:ak}{K:ae Int->Prop}(va:VR G ρ a v)(h:Dg a K):∃k adr,v= .ref adr/\TK G k adr/\K k:=
 Dg.e h (Q:=λ a=>VR G ρ a v->∃k adr,v= .ref adr/\TK G k adr/\K k) (λ xs k e h va=>va.Jy (Q:=λ v=>∃k adr,v= .ref adr/\TK G k adr/\K k) λ l o vs h1 h2 h3=>⟨k,l,rfl,⟨o,vs,h1,h2,ot e h3⟩,h⟩) va
theorem Hg{ks:ae (ae Int)}{vs:ae AV}{xs:ae (ae Int×au×ak)}{n:ae Int}{v:AV}(h:wR ks vs n=af v)(e:xs.map (·.1)=ks)(hv:bJ G ρ vs (xs.map (·.2.2))):∃p,atKey xs n=af p/\VR G ρ v p.2:=Av (val:=(·.2)) Uh (e▸h) hv
theorem wS{n:ae Int}:∀{ks:ae (ae Int)} {xs:ae (ae Int×au×ak)},xs.map (·.1)=ks->(atKey xs n).isSome=pH ks n
 |_,[]=>λ e=>e▸rfl
 |_,x::xs=>λ e=>e▸by
  show(Cm (x::xs) n).isSome=aY (sw x.1 n) true (pH (xs.map (·.1)) n)
  cases q:sw x.1 n with
  |true=>rw[yY (GW q)]; rfl
  |false=>rw[wB (Ld q)]; exact wS rfl
theorem Jk{ks:ae (ae Int)}{vs:ae AV}{xs:ae (ae Int×au×ak)}{n:ae Int}{a:au}{v:AV}{u:ak}(e:xs.map (·.1)=ks)(hv:bJ G ρ vs (xs.map (·.2.2)))(hu:VR G ρ v u):
  (sp n (λ x=>(x.1,x.2.1,u)) (n,a,u) xs).map (·.1)=rq ks n/\bJ G ρ (w9 ks vs n v) ((sp n (λ x=>(x.1,x.2.1,u)) (n,a,u) xs).map (·.2.2))/\
   ∀y∈sp n (λ x=>(x.1,x.2.1,u)) (n,a,u) xs,(y.1=n/\y.2.1=a)\/∃x∈xs,y.1=x.1/\y.2.1=x.2.1:=
 have z:=qG (n:=n) Uh (val:=(·.2)) (f:=λ b=>(b.1,u)) (nb:=(a,u)) hu rfl (λ aa=>rfl) hv
 ⟨e▸z.1,e▸z.2,λ y hy=>by
  rcases Dy hy with e|h|⟨x,h,e⟩
  ·exact .inl (e▸⟨rfl,rfl⟩)
  ·exact .inr ⟨y,h,rfl,rfl⟩
  ·exact .inr ⟨x,h,e▸⟨rfl,rfl⟩⟩⟩
theorem Dn{n:ae Int}{ks:ae (ae Int)}(h:ks.Nodup):(rq ks n).Nodup/\∀x∈rq ks n,x=n\/x∈ks:=sm Uh h
end
def lH(prog:aK)(w:bw)(A:bn)(u v:ak)(Q:ak->ar->Prop)(s:ar):Prop:=
 ∃T id,s.TypeIs u T/\hZ (.type T) "__getitem__"=pure (af (.builtin id))/\aH (aE prog w) A (getItem u v) Q dw s
section
variable{P:cC}{ct:Ct}{F:Fd}{G:BM}{ρ:ae au}{σ:St}{s:ar}{Kv:AV->St->Prop}
theorem AD{a:AV}{v:ak}{K:Int->Prop}(va:VR G ρ a v)(h:kj a K):∃i t,v= .int i t/\a= .int i/\K i:=
 h.e (Q:=λ a=>VR G ρ a v->∃i t,v= .int i t/\a= .int i/\K i) (λ i h va=>aD va λ t e=>⟨i,t,e,rfl,h⟩) va
theorem ltN{n:Int}{l:Nat}(h0:0<=n)(h1:n < l):n.toNat < l:=(mZ h0).mpr h1
theorem gR.u{n:Int}{l:Nat}{k Q:Prop}(h:gR n l k)(f:0<=n->n < l->n < 4611686018427387904->k->Q):Q:=need.u h λ b k=>f b.1 b.2.1 b.2.2 k
def Ke(prog:aK)(w:bw)(A:bn)(s:ar)(adr:au)(vs:bD ak):Prop:=∀(i:Int) (t:kx) (x:ak) (Q:ak->ar->Prop),0<=i->i < 4611686018427387904->vs.toList[i.toNat]?=af x->Q x s->lH prog w A (.ref adr) (.int i t) Q s
theorem Su{vs:bD ak}{i:Nat}{x:ak}(hx:vs.toList[i]?=af x):vs[i]?=af x:=bP.symm.trans hx
theorem vD{prog:aK}{w:bw}{A:bn}{adr:au}{o:Obj}{vs:bD ak}(ho:s.heap.get? adr=af o)(hl:i3 o vs):Ke prog w A s adr vs:=λ i t x Q h0 h2 hx h=>
 have L:s.heap.IsList adr vs:=⟨o,ho,hl.is⟩
 ⟨"list",_,L.typeIs,Be.lookup,wpAny_getItem_list L h0 (dr h2 (by decide)) (Su hx) h⟩
theorem A3{prog:aK}{w:bw}{A:bn}{adr:au}{o:Obj}{vs:bD ak}(ho:s.heap.get? adr=af o)(hl:pG o vs):Ke prog w A s adr vs:=λ i t x Q h0 h2 hx h=>
 have L:IsTup s.heap adr vs:=⟨o,ho,hl.1,hl.2⟩
 have IY:i < vs.size:=(mZ h0).mp (ju hx)
 ⟨"tuple",_,L.typeIs,slot_tuple_getitem.lookup,PyProof.Rows.getItem_tuple L (aO (by decide) h0) (dr h2 (by decide)) (seqIndex_of h0 IY) (Su hx) h⟩
theorem set_plain{prog:aK}{w:bw}{A:bn}{l:au}{vs:bD ak}{k:Int}{t:kx}{v:ak}{Q:e6->ar->Prop}(hl:s.heap.PlainList l vs)(h0:0<=k)(Yq:k < 2 ^ 63)(hn:k < vs.size)
  (hQ:∀h',h'.PlainList l (vs.setIfInBounds k.toNat v)->k7 l s.heap h'->Q () {s with heap:=h'}):aH (aE prog w) A (eV (.ref l) (.int k t) v) Q dw s:=by
 obtain⟨n,ho⟩:=hl
 have hT:s.TypeIs (.ref l) "list":=⟨_,ho,rfl⟩
 unfold eV
 try with_reducible refine bU ?_
 first|refine aj (aw ?_)|skip
 refine aj (lQ hT (by decide) ?_)
 refine aj (de (name:=bT "__setitem__") hT slot_list_setitem (cA slot_list_setitem hT entry_list_setitem ?_ (args_list_setitem _ _ _)))
 show aH _ _ (Builtin.List.listSubscript? (.int k t)>>=_) _ _ s
 refine aj (wpAny_listSubscript_int (fitsIndex_of h0 Yq) ?_)
 clear Yq
 obtain⟨j,rfl⟩:=py h0
 have hj:j < vs.size:=by omega
 show aH _ _ ((seqItemAt l j>>=λ r=>pure (r.map (j,·)))>>=_) _ _ s
 refine aj (aj (wpAny_seqItemAt ho rfl (aw ?_)))
 rw[e9 hj]
 show aH _ _ (setSeqItemAt l j v>>=_) _ _ s
 have km:∀f:bD ak->bD ak,∃m,Obj.mapSeq f (⟨.type "list",none, .seq vs n,#[]⟩:Obj)=⟨.type "list",none, .seq (f vs) m,#[]⟩:=λ f=>⟨_,rfl⟩
 obtain⟨m,km⟩:=km (·.setIfInBounds j v)
 have fin:(s.heap.update l (Obj.mapSeq (·.setIfInBounds j v))).PlainList l (vs.setIfInBounds j v):=⟨m,by rw[dK _ ho (by rw[km]; rfl)]; exact ah af km⟩
 refine aj (wpAny_setSeqItemAt ho rfl ?_)
 first
  |exact aj (aw (aw ⟨.none,rfl,aw (hQ _ fin (dF ..))⟩))
  |exact aw ⟨.none,rfl,aw (hQ _ fin (dF ..))⟩
theorem Td:hZ (.type "dict") "__getitem__"=pure (af (.builtin "dict.__getitem__")):=slot_dict_getitem.lookup
theorem x3.dict{prog:aK}{w:bw}{adr:au}{ob:Obj}{es:bD bf}{ep:Nat}{ks:ae Int}{us:ae ak}(h1:s.heap.get? adr=af ob)(hc:ob.ExactDict)(hd:ob.data= .dict es ep)(hk:x3 ks es.toList us)(hn:ks.Nodup):s.heap.DictOf (cE prog w) adr (ks.zip us):=
 have p:=hk.pairs (prog:=prog) (w:=w)
 ⟨ob,es,ep,h1,hc,hd,λ e he=>p.2.1 e (gM.mpr he),p.1,(hJ (aV p.2.2.symm)).symm▸hn⟩
theorem S5(O:gO P ct F):F.A.units+1 < qQ:=aU (fH (bq _ _) 1) (b_ (gj O.room.2.1) (by decide))
theorem FK{xs:ae (ae Int×au×ak)}{k:ae Int}{ka:au}{y:ak}(hn:(xs.map (·.1)).Nodup):storedH xs k ka y=sp k (λ x=>(x.1,x.2.1,y)) (k,ka,y) xs:=by
 rw[← vK k (λ x=>(x.1,x.2.1,y)) (k,ka,y) xs hn]
 unfold storedH putAt
 rw[show(atKey xs k).isSome=xs.any (λ x=>decide (x.1=k)) by unfold atKey; rw[Option.isSome_map,List.isSome_find?]]
theorem VR.XN{xs:ae Int}{a:au}{o:Obj}{vs:bD ak}(h:G a=af o)(k:pG o vs)(r:cx xs vs.toList):VR G ρ (.lq xs) (.ref a):=i8 a ⟨o,vs,rfl,h,k,r⟩
section
variable{i:AV}{v:ak}{adr:au}{ob:Obj}(R:RF F ct.aS G ρ σ s)(vi:VR G ρ i v)
include R vi
theorem V2{vs:bD ak}{xs:ae AV}(g:Ke P.prog P.w F.A s adr vs)(hv:bJ G ρ xs vs.toList)(h:kj i λ n=>gR n xs.length (Kv (fE xs n.toNat) σ)):lH P.prog P.w F.A (.ref adr) v (PE F ct.aS G ρ Kv) s:=
 h.u (Q:=λ v=>lH P.prog P.w F.A (.ref adr) v (PE F ct.aS G ρ Kv) s) vi λ n t h=>h.u λ b0 b1 b2 h=>(hv.get (wT _ _ (ltN b0 b1))).elim λ x z=>g n t x _ b0 b2 z.1 (PE.here R z.2 h)
theorem V1{vs:bD ak}{xs:ae Int}(g:Ke P.prog P.w F.A s adr vs)(hv:cx xs vs.toList)(h:kj i λ n=>gR n xs.length (Kv (.int (intAt xs n.toNat)) σ)):lH P.prog P.w F.A (.ref adr) v (PE F ct.aS G ρ Kv) s:=
 h.u (Q:=λ v=>lH P.prog P.w F.A (.ref adr) v (PE F ct.aS G ρ Kv) s) vi λ n t h=>h.u λ b0 b1 b2 h=>(hv.get (y3 _ _ (ltN b0 b1))).elim λ t' z=>g n t _ _ b0 b2 z (PE.here R VR.mH h)
theorem adq{vs:bD ak}{xs:ae (ae Int)}(g:Ke P.prog P.w F.A s adr vs)(hv:∀(i:Nat) (y:ae Int),xs[i]?=af y->∃(b:au) (o:Obj) (us:bD ak),vs[i]?=af (du b)/\G b=af o/\pG o us/\cx y us.toList)
  (h:kj i λ n=>gR n xs.length (Kv (.lq (rowAt xs n.toNat)) σ)):lH P.prog P.w F.A (.ref adr) v (PE F ct.aS G ρ Kv) s:=
 h.u (Q:=λ v=>lH P.prog P.w F.A (.ref adr) v (PE F ct.aS G ρ Kv) s) vi λ n t h=>h.u λ b0 b1 b2 h=>(hv _ _ (zr _ _ (ltN b0 b1))).elim λ b z=>z.elim λ o z=>z.elim λ us z=>
  g n t _ _ b0 b2 (bP.trans z.1) (PE.here R (VR.XN z.2.1 z.2.2.1 z.2.2.2) h)
theorem Pl{es:bD bf}{ep:Nat}{ks:ae Int}{us:ae ak}{vs:ae AV}(h1:s.heap.get? adr=af ob)(hc:ob.ExactDict)(hd:ob.data= .dict es ep)(hk:x3 ks es.toList us)(hv:bJ G ρ vs us)(hn:ks.Nodup)
  (h:kj i λ n=>Jb (lkI ks vs n) λ x=>Kv x σ):lH P.prog P.w F.A (.ref adr) v (PE F ct.aS G ρ Kv) s:=
 h.u (Q:=λ v=>lH P.prog P.w F.A (.ref adr) v (PE F ct.aS G ρ Kv) s) vi λ n t h=>h.u λ x hx h=>
  have p:=(hk.pairs (prog:=P.prog) (w:=P.w)).2.2
  have D:=x3.dict (prog:=P.prog) (w:=P.w) h1 hc hd hk hn
  (Av (xs:=ks.zip us) (val:=id) Pv ((hJ (aV p.symm)).symm▸hx) ((List.map_snd_zip (aV p):(ks.zip us).map (λ x=>id x.2)=us).symm▸hv)).elim λ y z=>
   ⟨"dict",_,D.mapOf.typeIs,Td,wpAny_getItem_of (show(cE P.prog P.w).is n (.int n t)=true from isInt_self (t:=t)) D.mapOf z.1 (PE.toks R z.2 h)⟩
theorem GR(O:gO P ct F){es:bD bf}{ep:Nat}{ks:ae (ae Int)}{us:ae ak}{vs:ae AV}(h1:s.heap.get? adr=af ob)(hc:ob.ExactDict)(hd:ob.data= .dict es ep)(hk:pE G ks es.toList us)(hv:bJ G ρ vs us)(hn:ks.Nodup)
  (h:Dg i λ n=>Jb (wR ks vs n) λ x=>Kv x σ):lH P.prog P.w F.A (.ref adr) v (PE F ct.aS G ρ Kv) s:=
 (sW vi h).elim λ k z=>z.elim λ ka z=>z.2.2.u λ x hx h=>(hk.rows (prog:=P.prog) (w:=P.w)).elim λ xs q=>
  have D:s.heap.DictOfH (g9 (cE P.prog P.w)) adr xs:=⟨ob,es,ep,h1,hc,hd,q.2.2.1,λ x hx=>(q.2.2.2 x hx).key R.rm.kg,q.1.symm▸hn⟩
  (Hg hx q.1 (q.2.1.symm▸hv)).elim λ p y=>z.1.symm▸⟨"dict",_,D.typeIs,Td,wpAny_getItem_heap (S5 O) (z.2.1.key R.rm.kg) D y.1 (PE.toks R y.2 h)⟩
theorem OZ{bs:ae b7}(h1:s.heap.get? adr=af (nO bs))(h:kj i λ n=>gR n bs.length (Kv (.int (bs.getD n.toNat 0).toNat) σ)):lH P.prog P.w F.A (.ref adr) v (PE F ct.aS G ρ Kv) s:=
 h.u (Q:=λ v=>lH P.prog P.w F.A (.ref adr) v (PE F ct.aS G ρ Kv) s) vi λ n t h=>h.u λ b0 b1 b2 h=>⟨"bytearray",_,dd h1,eX.lookup,KE h1 b0 (dr b2 (by decide)) b1 (PE.toks R VR.mH h)⟩
end
theorem EY{o:AO}{ob:Obj}{i:AV}{v:ak}{adr:au}(O:gO P ct F)(R:RF F ct.aS G ρ σ s)(vi:VR G ρ i v)(h1:s.heap.get? adr=af ob)(q:OR G ρ o ob)(h:Yg o i λ x=>Kv x σ):lH P.prog P.w F.A (.ref adr) v (PE F ct.aS G ρ Kv) s:=by
 rcases o with _|_|_|_|_|_|_|_
 case lst=>exact aD q λ vs q=>V2 R vi (vD h1 q.1) q.2 h
 case il=>exact aD q λ vs q=>V1 R vi (vD h1 q.1) q.2 h
 case iO=>exact(gh q).elim λ es z=>z.elim λ ep z=>z.elim λ us z=>Pl R vi h1 (eH q) z.1 z.2.1 z.2.2.1 z.2.2.2 h
 case bG=>exact(gh q).elim λ es z=>z.elim λ ep z=>z.elim λ us z=>GR R vi O h1 (eH q) z.1 z.2.1 z.2.2.1 z.2.2.2 h
 case ba=>exact OZ R vi (h1.trans (ah af q)) h
 all_goals exact h.elim
theorem EX{a i:AV}{u v:ak}(O:gO P ct F)(R:RF F ct.aS G ρ σ s)(va:VR G ρ a u)(vi:VR G ρ i v)(h:IU a i σ.mem λ x=>Kv x σ):
  lH P.prog P.w F.A u v (PE F ct.aS G ρ Kv) s:=by
 rcases a with _|_|_|_|_|p|_|_|xs|xs|xs|xs|xs|_|_|_|_|⟨ks,us⟩
 case own=>exact va.QJ (Q:=λ u=>lH P.prog P.w F.A u v (PE F ct.aS G ρ Kv) s) λ adr ha=>pJ.u h λ o e h=>(R.rm.obj p adr o ha ((eO ..).symm.trans e)).elim λ ob z=>EY O R vi z.1 z.2 h
 case lq=>exact M0 (Q:=λ u=>lH P.prog P.w F.A u v (PE F ct.aS G ρ Kv) s) va λ adr o vs z=>V1 R vi (A3 (R.rm.kg _ _ z.1) z.2.1) z.2.2 h
 case m9=>exact M0 (Q:=λ u=>lH P.prog P.w F.A u v (PE F ct.aS G ρ Kv) s) va λ adr o vs z=>adq R vi (A3 (R.rm.kg _ _ z.1) z.2.1) z.2.2.2 h
 case tup=>exact va.Jy (Q:=λ u=>lH P.prog P.w F.A u v (PE F ct.aS G ρ Kv) s) λ adr o vs z1 z2 z3=>V2 R vi (A3 (R.rm.kg _ _ z1) z2) z3 h
 case lst=>exact va.lstU (Q:=λ u=>lH P.prog P.w F.A u v (PE F ct.aS G ρ Kv) s) λ adr o vs z1 z2 z3=>V2 R vi (vD (R.rm.kg _ _ z1) z2) z3 h
 case row=>exact va.Dr (Q:=λ u=>lH P.prog P.w F.A u v (PE F ct.aS G ρ Kv) s) λ adr o vs z1 z2 z3=>V1 R vi (vD (R.rm.kg _ _ z1) z2) z3 h
 case bG=>exact aD va λ adr z=>z.elim λ o z=>z.elim λ es z=>z.elim λ ep z=>z.elim λ us z=>z.1▸GR R vi O (R.rm.kg _ _ z.2.1) z.2.2.1 z.2.2.2.1 z.2.2.2.2.1 z.2.2.2.2.2.1 z.2.2.2.2.2.2.1 h
 all_goals exact h.elim
section
variable{i v:AV}{j y:ak}{adr:au}{ob:Obj}{p:Nat}{K:St->Prop}{Q:e6->ar->Prop}(R:RF F ct.aS G ρ σ s)(jN:ρ[p]?=af adr)(h1:s.heap.get? adr=af ob)(hq:∀b8 s',RF F ct.aS G ρ b8 s'->K b8->Q () s')(vi:VR G ρ i j)(vv:VR G ρ v y)
include R jN h1 hq vi vv
theorem ads{xs:ae AV}{vals:bD ak}(hl:i3 ob vals)(hv:bJ G ρ xs vals.toList)(h:kj i λ n=>gR n xs.length (K (σ.put p (.lst (setAt xs n.toNat v))))):aH (aE P.prog P.w) F.A (eV (.ref adr) j y) Q dw s:=
 h.u (Q:=λ j=>aH (aE P.prog P.w) F.A (eV (.ref adr) j y) Q dw s) vi λ n t h=>h.u λ b0 b1 b2 h=>set_plain (hl.plain h1) b0 (dr b2 (by decide)) ((bh.symm.trans hv.length).symm▸b1) λ h' L' sb=>(i3.of L').elim λ o' z=>
  hq _ _ (R.rA (wf:= .lst _) (s':={s with heap:=h'}) jN z.1 ⟨_,z.2,by rw[xQ,DB]; exact hv.set vv⟩ (λ b o n e=>sb.extBut b o n e) ⟨rfl,rfl,rfl⟩) h
theorem ZS{xs:ae Int}{vals:bD ak}(hl:i3 ob vals)(hv:cx xs vals.toList)(h:kj i λ n=>kj v λ m=>gR n xs.length (K (σ.put p (.il (setInt xs n.toNat m))))):aH (aE P.prog P.w) F.A (eV (.ref adr) j y) Q dw s:=
 h.u (Q:=λ j=>aH (aE P.prog P.w) F.A (eV (.ref adr) j y) Q dw s) vi λ n t h=>h.u (Q:=λ y=>aH (aE P.prog P.w) F.A (eV (.ref adr) (.int n t) y) Q dw s) vv λ m t' h=>h.u λ b0 b1 b2 h=>
  set_plain (hl.plain h1) b0 (dr b2 (by decide)) ((bh.symm.trans hv.length).symm▸b1) λ h' L' sb=>(i3.of L').elim λ o' z=>
  hq _ _ (R.rA (wf:= .il _) (s':={s with heap:=h'}) jN z.1 ⟨_,z.2,by rw[xQ,qJ]; exact hv.set⟩ (λ b o n e=>sb.extBut b o n e) ⟨rfl,rfl,rfl⟩) h
theorem setB{bs:ae b7}(e:ob=nO bs)(h:kj i λ n=>kj v λ m=>gR n bs.length (need (0<=m/\m < 256/\bs.length < 1000000) (K (σ.put p (.ba (bs.set n.toNat (eG m.toNat))))))):aH (aE P.prog P.w) F.A (eV (.ref adr) j y) Q dw s:=
 h.u (Q:=λ j=>aH (aE P.prog P.w) F.A (eV (.ref adr) j y) Q dw s) vi λ n t h=>h.u (Q:=λ y=>aH (aE P.prog P.w) F.A (eV (.ref adr) (.int n t) y) Q dw s) vv λ m t' h=>h.u λ b0 b1 b2 h=>h.u λ c h=>
  KI (h1.trans (ah af e)) b0 (dr b2 (by decide)) b1 c.1 c.2.1 (aG (eZ c.2.2) (by decide)) λ h' e1 e2=>hq _ _ (R.rA (wf:= .ba _) (s':={s with heap:=h'}) jN e1 rfl e2 ⟨rfl,rfl,rfl⟩) h
theorem ZQ{es:bD bf}{ep:Nat}{ks:ae Int}{us:ae ak}{vs:ae AV}(hc:ob.ExactDict)(hd:ob.data= .dict es ep)(hk:x3 ks es.toList us)(hv:bJ G ρ vs us)(hn:ks.Nodup)
  (h:kj i λ n=>cK (bB ks.length 1000) (K (σ.put p (.iO (qg ks n) (Do ks vs n v))))):aH (aE P.prog P.w) F.A (eV (.ref adr) j y) Q dw s:=
 h.u (Q:=λ j=>aH (aE P.prog P.w) F.A (eV (.ref adr) j y) Q dw s) vi λ n t h=>h.u λ kz h=>by
  have p3:=(hk.pairs (prog:=P.prog) (w:=P.w)).2.2
  have Sz:((ks.zip us).map (·.1)).Nodup:=(hJ (aV p3.symm)).symm▸hn
  have hlen:(ks.zip us).length<=gA:=aG (List.length_zip▸Nat.min_le_left _ _) (aG (aQ kz) (by decide))
  have z:=Ji (n:=n) hv p3 vv
  refine wpAny_setItem_pairs (hsz:=hlen) (show(cE P.prog P.w).is n (.int n t)=true from isInt_self (t:=t)) (x3.dict h1 hc hd hk hn) λ h' D' sb=>?_
  rw[show tA (ks.zip us) n y=_ from vK n (λ kv=>(kv.1,y)) (n,y) _ Sz] at D'
  exact D'.elim λ o' D'=>D'.elim λ Bn D'=>D'.elim λ JW D'=>hq _ _ (R.rA (wf:= .iO _ _) (s':={s with heap:=h',toks:=s.toks+1}) jN D'.1 ⟨D'.2.1,Bn,JW,_,D'.2.2.1,z.1▸x3.of D'.2.2.2.2.1 λ e he=>D'.2.2.2.1 e (gM.mp he),z.2,(uI hn).1⟩ (λ b o n e=>sb.extBut b o n e) ⟨rfl,rfl,rfl⟩) h
theorem ZR(O:gO P ct F){es:bD bf}{ep:Nat}{ks:ae (ae Int)}{us:ae ak}{vs:ae AV}(hc:ob.ExactDict)(hd:ob.data= .dict es ep)(hk:pE G ks es.toList us)(hv:bJ G ρ vs us)(hn:ks.Nodup)
  (h:Dg i λ k=>cK (bB ks.length 1000) (K (σ.put p (.bG (rq ks k) (w9 ks vs k v))))):aH (aE P.prog P.w) F.A (eV (.ref adr) j y) Q dw s:=
 (sW vi h).elim λ k q=>q.elim λ ka q=>q.2.2.u λ kz h=>(hk.rows (prog:=P.prog) (w:=P.w)).elim λ xs e=>q.1.symm▸by
  have Sz:(xs.map (·.1)).Nodup:=e.1.symm▸hn
  have hlen:xs.length<=gA:=aG (aV ((bL (f:=λ x:ae Int×au×ak=>x.1) (as:=xs)).symm.trans (ah f4 e.1))) (aG (aQ kz) (by decide))
  have z:=Jk (n:=k) (a:=ka) e.1 (e.2.1.symm▸hv) vv
  refine wpAny_setItem_heap (hsz:=hlen) (S5 O) (q.2.1.key R.rm.kg) (⟨ob,es,ep,h1,hc,hd,e.2.2.1,λ x hx=>(e.2.2.2 x hx).key R.rm.kg,Sz⟩:s.heap.DictOfH (g9 (cE P.prog P.w)) adr xs) λ h' D' sb=>?_
  rw[FK Sz] at D'
  exact D'.elim λ o' D'=>D'.elim λ Bn D'=>D'.elim λ JW D'=>hq _ _ (R.rA (wf:= .bG _ _) (s':={s with heap:=h',toks:=s.toks+(g9 (cE P.prog P.w)).draws k}) jN D'.1 ⟨D'.2.1,Bn,JW,_,D'.2.2.1,z.1▸D'.2.2.2.1▸pE.of λ x hx=>(z.2.2 x hx).elim (λ w=>w.1▸w.2▸q.2.1) λ w=>w.elim λ x' w=>w.2.1▸w.2.2▸e.2.2.2 x' w.1,z.2.1,(Dn hn).1⟩ (λ b o n e=>sb.extBut b o n e) ⟨rfl,rfl,rfl⟩) h
end
theorem FF{o:AO}{i v:AV}{j y:ak}{adr:au}{ob:Obj}{p:Nat}{K:St->Prop}{Q:e6->ar->Prop}(O:gO P ct F)(R:RF F ct.aS G ρ σ s)(jN:ρ[p]?=af adr)(h1:s.heap.get? adr=af ob)(q:OR G ρ o ob)(vi:VR G ρ i j)(vv:VR G ρ v y)(h:ZT o p i v σ K)
  (hq:∀b8 s',RF F ct.aS G ρ b8 s'->K b8->Q () s'):aH (aE P.prog P.w) F.A (eV (.ref adr) j y) Q dw s:=by
 rcases o with _|_|_|_|_|_|_|_
 case lst=>exact aD q λ vs q=>ads R jN h1 hq vi vv q.1 q.2 h
 case il=>exact aD q λ vs q=>ZS R jN h1 hq vi vv q.1 q.2 h
 case iO=>exact(gh q).elim λ es z=>z.elim λ ep z=>z.elim λ us z=>ZQ R jN h1 hq vi vv (eH q) z.1 z.2.1 z.2.2.1 z.2.2.2 h
 case bG=>exact(gh q).elim λ es z=>z.elim λ ep z=>z.elim λ us z=>ZR R jN h1 hq vi vv O (eH q) z.1 z.2.1 z.2.2.1 z.2.2.2 h
 case ba=>exact setB R jN h1 hq vi vv q h
 all_goals exact h.elim
theorem FE{a i v:AV}{u j y:ak}{K:St->Prop}{Q:e6->ar->Prop}(O:gO P ct F)(R:RF F ct.aS G ρ σ s)(va:VR G ρ a u)(vi:VR G ρ i j)(vv:VR G ρ v y)(h:Jt a i v σ K)
  (hq:∀b8 s',RF F ct.aS G ρ b8 s'->K b8->Q () s'):aH (aE P.prog P.w) F.A (eV u j y) Q dw s:=
 lL.u (Q:=λ a=>VR G ρ a u->aH (aE P.prog P.w) F.A (eV u j y) Q dw s) h (λ p h va=>va.QJ (Q:=λ u=>aH (aE P.prog P.w) F.A (eV u j y) Q dw s) λ adr ha=>pJ.u h λ o e h=>(R.rm.obj p adr o ha ((eO ..).symm.trans e)).elim λ ob z=>FF O R ha z.1 z.2 vi vv h hq) va
end
section
variable{P:cC}{ct:Ct}
theorem Fw{c:Int×Int}:∀{q:ae (Int×Int)} {i:Nat} {r:ae Int},rb q r->WU q i=af c->i < r.length/\c.1<=intAt r i/\intAt r i<=c.2
 |[],_,_=>λ aa h=>cm h
 |q::qs,0,_=>λ g h=>g.uc (Q:=λ r=>0 < r.length/\c.1<=intAt r 0/\intAt r 0<=c.2) λ x xs h1 h2 aa=>am h▸⟨pC _,h1,h2⟩
 |q::qs,i+1,_=>λ g h=>g.uc (Q:=λ r=>i+1 < r.length/\c.1<=intAt r (i+1)/\intAt r (i+1)<=c.2) λ x xs aa aa g=>(Fw (i:=i) g h).imp_left gj
theorem rb.cons{q:Int×Int}{qs:ae (Int×Int)}{x:Int}{xs:ae Int}(h:q.1<=x)(k:x<=q.2)(r:rb qs xs):rb (q::qs) (x::xs):=⟨x,xs,rfl,h,k,r⟩
theorem HD{c:Int×Int}{x:Int}(h:c.1<=x)(h':x<=c.2):∀{q:ae (Int×Int)} {i:Nat} {r:ae Int},rb q r->rb (QQ q i c) (setInt r i x)
 |[],_,_=>λ g=>g.u0 (Q:=λ r=>rb [] (setInt r _ x)) rfl
 |q::qs,0,_=>λ g=>g.uc (Q:=λ r=>rb (c::qs) (setInt r 0 x)) λ aa aa aa aa g=> .cons h h' g
 |q::qs,i+1,_=>λ g=>g.uc (Q:=λ r=>rb (q::QQ qs i c) (setInt r (i+1) x)) λ aa aa h1 h2 g=> .cons h1 h2 (HD h h' g)
abbrev adF:ae Int->ae TV->Int->aq TV:=Ff Lc
abbrev NR:ae Int->ae TV->Int->TV->ae TV:=jZ Lc
abbrev adE:ae (ae Int)->ae TV->ae Int->aq TV:=Ff sw
abbrev Wf:ae (ae Int)->ae TV->ae Int->TV->ae TV:=jZ sw
theorem lC{t:TV}{v a:AV}(g:GV t a)(e:t= .ex v):a=v:=(e▸g:GV (.ex v) a)
theorem GS.at{s:AS}{σ:St}{p:Nat}{o x:TO}(gs:GS s σ)(h:gW s.mem p=af o)(e:o=x):∃o',bM σ.mem p=af o'/\GO σ.mem x o':=gs.mem.get p x (h.trans (ah af e))
theorem GS.vs{s:AS}{σ:St}{p:Nat}{o x:TO}{α:Type}{f:α->AO}{R:α->Prop}(gs:GS s σ)(h:gW s.mem p=af o)(e:o=x)(k:∀o',GO σ.mem x o'->∃us,o'=f us/\R us):∃us,bM σ.mem p=af (f us)/\R us:=
 (gs.at h e).elim λ o' z=>(k o' z.2).imp λ aa=> .imp_left λ q=>z.1.trans (ah af q)
theorem lU{a b:Nat}(h:eK a b=true):a < b:=aQ h
abbrev uh(t i:TV)(s:AS)(u:TV):Prop:=∀a b σ,GV t a->GV i b->GS s σ->∃v,GV u v/\∀K:AV->Prop,K v->IU a b σ.mem K
noncomputable def Ao(n:Int):aC:=decide (0<=n/\n < 4611686018427387904)
theorem jY{n:Int}{l:Nat}{k:Prop}(h:Ao n=true)(hl:n.toNat < l)(hk:k):gR n l k:=have h:=bg h; T7 ⟨h.1,(mZ h.1).mp hl,h.2⟩ hk
def gIl(t i:TV)(s:AS):aq {u:TV // uh t i s u}:=ob (nU t) λ p=>ob (lz i) λ n=>jS (gW s.mem p.1) λ o ho=>ob (oIl o) λ q=>bE (Ao n.1) λ hn=>jS (WU q.1 n.1.toNat) λ c hc=>af ⟨SQ c,λ a b σ ga gb gs=>
 (gs.vs ho q.2 λ aa z=>z).elim λ r z=>have w:=Fw z.2 hc; ⟨.int (intAt r n.1.toNat),tX w.2.1 w.2.2,λ K k=>(lC ga p.2).symm▸(lC gb n.2).symm▸dI z.1 (jY hn w.1 k)⟩⟩
def abW(t i:TV)(s:AS):aq {u:TV // uh t i s u}:=ob (nU t) λ p=>ob (lz i) λ n=>jS (gW s.mem p.1) λ o ho=>ob (oLst o) λ q=>bE (Ao n.1) λ hn=>jS (RG q.1 n.1.toNat) λ u hu=>af ⟨u,λ a b σ ga gb gs=>
 (gs.vs ho q.2 λ aa z=>z).elim λ r z=>(t8 z.2 hu).elim λ v w=>⟨v,w.2.2,λ K k=>(lC ga p.2).symm▸(lC gb n.2).symm▸dI z.1 (jY hn (ju w.1) (w.2.1.symm▸k))⟩⟩
def abU(t i:TV)(s:AS):aq {u:TV // uh t i s u}:=ob (nU t) λ p=>ob (lz i) λ n=>jS (gW s.mem p.1) λ o ho=>ob (Zf o) λ q=>jS (adF q.1.1 q.1.2 n.1) λ u hu=>af ⟨u,λ a b σ ga gb gs=>
 (gs.vs ho q.2 λ aa z=>z).elim λ r z=>(Au z.2 hu).elim λ v w=>⟨v,w.2,λ K k=>(lC ga p.2).symm▸(lC gb n.2).symm▸dI z.1 (sk w.1 k)⟩⟩
def gRw(t i:TV)(s:AS):aq {u:TV // uh t i s u}:=ob (tRw t) λ q=>ob (lz i) λ n=>bE (Ao n.1) λ hn=>jS (WU q.1 n.1.toNat) λ c hc=>af ⟨SQ c,λ a b σ ga gb gs=>
 aD (q.2▸ga:GV (.rw q.1) a) λ r z=>have w:=Fw z.2 hc; ⟨.int (intAt r n.1.toNat),tX w.2.1 w.2.2,λ K k=>z.1.symm▸(lC gb n.2).symm▸jY hn w.1 k⟩⟩
def abX(t i:TV)(s:AS):aq {u:TV // uh t i s u}:=ob (Wc t) λ q=>ob (lz i) λ n=>bE (Ao n.1&&eK n.1.toNat q.1.length) λ hn=>af ⟨.ex (.int (intAt q.1 n.1.toNat)),λ a b σ ga gb gs=>
 ⟨_,rfl,λ K k=>(lC ga q.2).symm▸(lC gb n.2).symm▸jY (aF hn).1 (lU (aF hn).2) k⟩⟩
def NJ(t:TV):aq {k:ae Int // ∀b,GV t b->∀K:ae Int->Prop,K k->Dg b K}:=ob (toAV t) λ a=>ob (kT a.1) λ k=>af ⟨k.1,λ b gb K z=>(a.2 _ gb).symm▸k.2 K z⟩
def abV(t i:TV)(s:AS):aq {u:TV // uh t i s u}:=ob (nU t) λ p=>ob (NJ i) λ n=>jS (gW s.mem p.1) λ o ho=>ob (oDct o) λ q=>jS (adE q.1.1 q.1.2 n.1) λ u hu=>af ⟨u,λ a b σ ga gb gs=>
 (gs.vs ho q.2 λ aa z=>z).elim λ r z=>(Au z.2 hu).elim λ v w=>⟨v,w.2,λ K k=>(lC ga p.2).symm▸dI z.1 (n.2 b gb _ (sk w.1 k))⟩⟩
def X1(a i:AV)(m:ae AO):aq {v:AV // ∀K:AV->Prop,K v->IU a i m K}:=match a with
 | .own p=>jS (bM m p) λ o ho=>match o,ho with
  | .bG ks vs,ho=>ob (kT i) λ k=>jS (wR ks vs k.1) λ v hv=>af ⟨v,λ K z=>dI ho (k.2 _ (sk hv z))⟩
  |_,_=>none
 | .bG ks vs=>ob (kT i) λ k=>jS (wR ks vs k.1) λ v hv=>af ⟨v,λ K z=>k.2 _ (sk hv z)⟩
 | .lst xs=>match i with
  | .int n=>bE (Ao n&&eK n.toNat xs.length) λ h=>af ⟨fE xs n.toNat,λ K z=>jY (aF h).1 (lU (aF h).2) z⟩
  |_=>none
 | .tup xs=>match i with
  | .int n=>bE (Ao n&&eK n.toNat xs.length) λ h=>af ⟨fE xs n.toNat,λ K z=>jY (aF h).1 (lU (aF h).2) z⟩
  |_=>none
 |_=>none
def gEx(t i:TV)(s:AS):aq {u:TV // uh t i s u}:=ob (toAV t) λ a=>ob (toAV i) λ b=>ob (toSt s) λ σ=>ob (X1 a.1 b.1 σ.1.mem) λ v=>af ⟨.ex v.1,λ a' b' b8 ga gb gs=>⟨v.1,rfl,λ K z=>(a.2 _ ga).symm▸(b.2 _ gb).symm▸(σ.2 _ gs).symm▸v.2 K z⟩⟩
def Xg(t i:TV)(s:AS):aq {u:TV // uh t i s u}:=oe (gIl t i s) (oe (gRw t i s) (oe (abU t i s) (oe (abX t i s) (oe (abW t i s) (oe (abV t i s) (gEx t i s))))))
abbrev yA(t i x:TV)(s s':AS):Prop:=∀a b v σ,GV t a->GV i b->GV x v->GS s σ->∃b8,GS s' b8/\∀K:St->Prop,K b8->Jt a b v σ K
def pIl(t i x:TV)(s:AS):aq {s':AS // yA t i x s s'}:=ob (nU t) λ p=>ob (lz i) λ n=>jS (mj x) λ c hc=>jS (gW s.mem p.1) λ o ho=>ob (oIl o) λ q=>bE (Ao n.1&&eK n.1.toNat q.1.length) λ hn=>af ⟨s.put p.1 (.il (QQ q.1 n.1.toNat c)),λ a b v σ ga gb gv gs=>
 (gs.vs ho q.2 λ aa z=>z).elim λ r z=>mj.u (Q:=λ v=>∃b8,GS (s.put p.1 (.il (QQ q.1 n.1.toNat c))) b8/\∀K:St->Prop,K b8->Jt a b v σ K) hc gv λ j j0 j1=>
  ⟨σ.put p.1 (.il (setInt r n.1.toNat j)),⟨gs.loc,gs.mem.set (o:= .il q.1) (ho.trans (ah af q.2)) rfl ⟨_,rfl,HD j0 j1 z.2⟩ (.inl rfl)⟩,λ K k=>(lC ga p.2).symm▸(lC gb n.2).symm▸dI z.1 (jY (aF hn).1 (z.2.len▸lU (aF hn).2) k)⟩⟩
def adc(t i x:TV)(s:AS):aq {s':AS // yA t i x s s'}:=ob (nU t) λ p=>ob (lz i) λ n=>jS (gW s.mem p.1) λ o ho=>ob (oLst o) λ q=>bE (Ao n.1&&eK n.1.toNat q.1.length) λ hn=>af ⟨s.put p.1 (.lst (sv q.1 n.1.toNat x)),λ a b v σ ga gb gv gs=>
 (gs.vs ho q.2 λ aa z=>z).elim λ r z=>⟨σ.put p.1 (.lst (setAt r n.1.toNat v)),⟨gs.loc,gs.mem.set (o:= .lst q.1) (ho.trans (ah af q.2)) rfl ⟨_,rfl,dH.AP gv z.2⟩ (.inl rfl)⟩,λ K k=>
  (lC ga p.2).symm▸(lC gb n.2).symm▸dI z.1 (jY (aF hn).1 (z.2.len▸lU (aF hn).2) k)⟩⟩
def ada(t i x:TV)(s:AS):aq {s':AS // yA t i x s s'}:=ob (nU t) λ p=>ob (lz i) λ n=>jS (gW s.mem p.1) λ o ho=>ob (Zf o) λ q=>bE (bB q.1.1.length 1000&&aT q.1.1.length q.1.2.length) λ hn=>af ⟨s.put p.1 (.iO (qg q.1.1 n.1) (NR q.1.1 q.1.2 n.1 x)),λ a b v σ ga gb gv gs=>
 (gs.vs ho q.2 λ aa z=>z).elim λ r z=>⟨σ.put p.1 (.iO (qg q.1.1 n.1) (Do q.1.1 r n.1 v)),⟨gs.loc,gs.mem.set (o:= .iO q.1.1 q.1.2) (ho.trans (ah af q.2)) rfl ⟨_,rfl,qh gv (aL (aF hn).2) z.2⟩ (.inl rfl)⟩,λ K k=>
  (lC ga p.2).symm▸(lC gb n.2).symm▸dI z.1 (cK.i (aF hn).1 k)⟩⟩
def adb(t i x:TV)(s:AS):aq {s':AS // yA t i x s s'}:=ob (nU t) λ p=>ob (NJ i) λ n=>jS (gW s.mem p.1) λ o ho=>ob (oDct o) λ q=>bE (bB q.1.1.length 1000&&aT q.1.1.length q.1.2.length) λ hn=>af ⟨s.put p.1 (.bG (rq q.1.1 n.1) (Wf q.1.1 q.1.2 n.1 x)),λ a b v σ ga gb gv gs=>
 (gs.vs ho q.2 λ aa z=>z).elim λ r z=>⟨σ.put p.1 (.bG (rq q.1.1 n.1) (w9 q.1.1 r n.1 v)),⟨gs.loc,gs.mem.set (o:= .bG q.1.1 q.1.2) (ho.trans (ah af q.2)) rfl ⟨_,rfl,qh gv (aL (aF hn).2) z.2⟩ (.inl rfl)⟩,λ K k=>
  (lC ga p.2).symm▸dI z.1 (n.2 b gb _ (cK.i (aF hn).1 k))⟩⟩
def Zg(m:ae AO)(p:Nat):aq {c:ae (ae Int)×ae AV // bM m p=af (.bG c.1 c.2)}:=jS (bM m p) λ o ho=>match o,ho with
 | .bG ks vs,ho=>af ⟨(ks,vs),ho⟩
 |_,_=>none
noncomputable def ac9(a:AV):aq {p:Nat // a= .own p}:=match a with
 | .own p=>af ⟨p,rfl⟩
 |_=>none
def pEx(t i x:TV)(s:AS):aq {s':AS // yA t i x s s'}:=ob (toAV t) λ a=>ob (toAV i) λ b=>ob (toAV x) λ c=>ob (toSt s) λ σ=>ob (ac9 a.1) λ p=>ob (Zg σ.1.mem p.1) λ d=>ob (kT b.1) λ k=>bE (bB d.1.1.length 1000) λ hn=>
 ob (Zk (σ.1.put p.1 (.bG (rq d.1.1 k.1) (w9 d.1.1 d.1.2 k.1 c.1)))) λ s'=>af ⟨s'.1,λ a' b' v' b8 ga gb gv gs=>⟨_,s'.2,λ K z=>((a.2 _ ga).trans p.2).symm▸(b.2 _ gb).symm▸(c.2 _ gv).symm▸(σ.2 _ gs).symm▸dI d.2 (k.2 _ (cK.i hn z))⟩⟩
def Xj(t i x:TV)(s:AS):aq {s':AS // yA t i x s s'}:=oe (pIl t i x s) (oe (adc t i x s) (oe (ada t i x s) (oe (adb t i x s) (pEx t i x s))))
def FY(o i:SE P ct)(p:c9):SE P ct where
 bA:= .Subscript o.bA i.bA p
 run:=λ σ K=>o.run σ λ a aI=>i.run aI λ b aW=>IU a b aW.mem λ v=>K v aW
 ch:=vG 1 i.bA&&(o.ch&&i.ch)
 star:=λ aa aa=>rfl
 ok:=λ c F G ρ σ s Kv O R h=>X.Subscript (SE.then o i (aF (aF c).2).1 (aF (aF c).2).2 O R h λ G' ρ' a b u v b8 s' g x R' va vb k=>(EX O R' va vb k).elim λ T z=>z.elim λ id z=>CV g x (tail_any z.1 z.2.1 z.2.2 ((HN (aF c).1).1 _ _)))
 ab:=R9 o.ab i.ab λ t u s=>ob (Xg t u s) λ x=>af [(x.1,s)]
 cO:=λ fo=>rU fo λ t u s outs a b σ h ga gb gs=>ob.u h λ x aa h=>(x.2 a b σ ga gb gs).elim λ v k=>D2.one h k.1 gs λ K z=>k.2 _ z
theorem V8{e o i:aB}{p:c9}{l:Nat}{env:Env}:oH e (af (.Subscript o i p)) l env=pure false:=by
 rcases e with _|_|_|_|_|_|_|_|_|_|_|_|_|_|_|_|_|_|_|_|_|_|_|_|_|_|_
 all_goals rfl
def Ta(o i:SE P ct)(p':c9)(e:SE P ct)(p:c9):SX P ct where
 bA:= .Assign [.Subscript o.bA i.bA p'] e.bA p
 run:=λ σ K=>e.run σ λ v aI=>o.run aI λ a aW=>i.run aW λ b dC=>Jt a b v dC λ qp=>K .d8 qp
 ch:=e.ch&&(o.ch&&i.ch)
 ok:=λ c F G ρ σ s Kv O R h=>X.tD V8 (X.mono (e.ok (aF c).1 F G ρ σ s _ O R h) λ v s₁ z=>z.u λ dW c8 av aI fQ fu dS vv bH=>SE.then o i (aF (aF c).2).1 (aF (aF c).2).2 O dS bH λ G' ρ' a b u w b8 s' g x R' va vb k=>
   X.any (FE O R' va vb (vv.up g x) k λ JA s'' Bi k=>PF.d8 (fQ.trans g) (fu.trans x) Bi k))
 ab:=λ s=>bO (e.ab s) λ x s=>bO (o.ab s) λ t s=>bO (i.ab s) λ u s=>ob (Xj t u x s) λ s'=>af [(.d8,s'.1)]
 cO:=λ fo s outs h σ gs=>(e.cO fo).bind h gs λ x s l h v σ gv gs=>(o.cO fo).bind h gs λ t s l h a σ ga gs=>(i.cO fo).bind h gs λ u s l h b σ gb gs=>ob.u h λ s' aa h=>(s'.2 a b v σ ga gb gv gs).elim λ b8 k=>D2.one h rfl k.1 λ K z=>k.2 _ z
end
theorem oy{Q Q':ak->ar->Prop}(h:∀v s,Q v s->Q' v s):∀r s,Ht Q r s->Ht Q' r s:=λ r s z=>by
 rcases r with _|(_|_|_|_)
 case ok.ret=>exact h _ _ z
 all_goals exact z.elim
theorem WQ.mono{G:BM}{ρ:ae au}{s s':ar}{K K':AV->ae AO->Prop}(k:∀a m,K a m->K' a m){v:ak}(h:WQ G ρ s K v s'):WQ G ρ s K' v s':=by
 rcases h with⟨_,_,_,_,h,a,b,c,d⟩
 exact⟨_,_,_,_,⟨h.1,h.2.1,h.2.2.1,h.2.2.2.1,k _ _ h.2.2.2.2⟩,a,b,c,d⟩
theorem WC.mono{P:cC}{f:au}{dx:ae AV}{mem:ae AO}{K K':AV->ae AO->Prop}(h:WC P f dx mem K)(k:∀a m,K a m->K' a m):WC P f dx mem K':=
 ⟨λ A G ρ s vs r p m v=>X.eu (h.run A G ρ s vs r p m v) (oy λ aa aa=>WQ.mono k)⟩
structure cC.Le(P Q:cC):Prop where
 prog:P.prog=Q.prog
 w:P.w=Q.w
 d:P.d<=Q.d
 j:P.j=false\/P.j=Q.j
 ja:∀G,Q.Φ G->P.Φ G
theorem cC.Le.code{P Q:cC}(x:P.Le Q){A:bn}{c:vT}{R:iT->ar->Prop}{s:ar}(h:dP P.j (aE P.prog P.w) A c R s):dP Q.j (aE Q.prog Q.w) A c R s:=
 x.prog▸x.w▸x.j.elim (λ j=>X.B7 (X.II (j▸h))) λ j=>j▸h
theorem WC.up{P Q:cC}(x:P.Le Q){f:au}{dx:ae AV}{mem:ae AO}{K:AV->ae AO->Prop}(h:WC P f dx mem K):WC Q f dx mem K:=
 ⟨λ A G ρ s vs r p m v=>x.code (h.run A G ρ s vs (r.less x.d) (x.ja G p) m v)⟩
mutual
noncomputable def eA(f:Nat->Nat):AV->AV
 | .own i=> .own (f i)
 | .tup xs=> .tup (ew f xs)
 | .lst xs=> .lst (ew f xs)
 | .inst C ks vs=> .inst C ks (ew f vs)
 | .undef=> .undef
 | .none=> .none
 | .bool b=> .bool b
 | .int i=> .int i
 | .j9 b=> .j9 b
 | .val v=> .val v
 | .fn a=> .fn a
 | .lq x=> .lq x
 | .m9 x=> .m9 x
 | .row x=> .row x
 | .any=> .any
 | .j_ a b c=> .j_ a b c
 | .iO ks vs=> .iO ks (ew f vs)
 | .bG ks vs=> .bG ks (ew f vs)
noncomputable def ew(f:Nat->Nat):ae AV->ae AV
 |[]=>[]
 |v::r=>eA f v::ew f r
end
def ly(f:Nat->Nat):AO->AO
 | .lst xs=> .lst (ew f xs)
 | .inst C j=> .inst C (f j)
 | .ns ks vs=> .ns ks (ew f vs)
 | .iO ks vs=> .iO ks (ew f vs)
 | .bG ks vs=> .bG ks (ew f vs)
 | .il ns=> .il ns
 | .ba bs=> .ba bs
 | .tab=> .tab
section
variable{G:BM}{ρ ρ':ae au}{f:Nat->Nat}
theorem MN{i j:Nat}{v:ak}(h:∀a,ρ[i]?=af a->ρ'[j]?=af a):(∃a,ρ[i]?=af a/\v= .ref a)->∃a,ρ'[j]?=af a/\v= .ref a:= .imp λ a=> .imp_left (h a)
mutual
theorem VR.eW(h:∀i a,ρ[i]?=af a->ρ'[f i]?=af a):∀(a:AV) {v:ak},VR G ρ a v->VR G ρ' (eA f a) v
 | .own i,_=>MN (h i)
 | .tup xs,_=>NY (dG.refl G) λ aa aa=> .imp_right (bJ.eW h xs)
 | .lst xs,_=>NY (dG.refl G) λ aa aa=> .imp_right (bJ.eW h xs)
 | .inst _ _ us,_=>A4 (dG.refl G) λ aa=>bJ.eW h us
 | .iO _ us,_=>Tl (dG.refl G) λ aa aa aa aa aa=> .imp_right<| .imp_right<| .imp_right<| .imp_left (bJ.eW h us)
 | .bG _ us,_=>Tl (dG.refl G) λ aa aa aa aa aa=> .imp_right<| .imp_right<| .imp_right<| .imp_left (bJ.eW h us)
 | .undef,_=>id
 | .none,_=>id
 | .bool _,_=>id
 | .int _,_=>id
 | .j9 _,_=>id
 | .val _,_=>id
 | .fn _,_=>id
 | .lq _,_=>id
 | .m9 _,_=>id
 | .row _,_=>id
 | .any,_=>id
 | .j_ _ _ _,_=>id
theorem bJ.eW(h:∀i a,ρ[i]?=af a->ρ'[f i]?=af a):∀(as:ae AV) {vs:ae ak},bJ G ρ as vs->bJ G ρ' (ew f as) vs
 |[],_=>id
 |v::r,_=> .imp λ aa=> .imp λ aa=> .imp_right<| .imp (VR.eW h v) (bJ.eW h r)
end
mutual
theorem VR.lO(h:∀i a,ρ'[f i]?=af a->ρ[i]?=af a):∀(a:AV) {v:ak},VR G ρ' (eA f a) v->VR G ρ a v
 | .own i,_=>MN (h i)
 | .tup xs,_=>NY (dG.refl G) λ aa aa=> .imp_right (bJ.lO h xs)
 | .lst xs,_=>NY (dG.refl G) λ aa aa=> .imp_right (bJ.lO h xs)
 | .inst _ _ us,_=>A4 (dG.refl G) λ aa=>bJ.lO h us
 | .iO _ us,_=>Tl (dG.refl G) λ aa aa aa aa aa=> .imp_right<| .imp_right<| .imp_right<| .imp_left (bJ.lO h us)
 | .bG _ us,_=>Tl (dG.refl G) λ aa aa aa aa aa=> .imp_right<| .imp_right<| .imp_right<| .imp_left (bJ.lO h us)
 | .undef,_=>id
 | .none,_=>id
 | .bool _,_=>id
 | .int _,_=>id
 | .j9 _,_=>id
 | .val _,_=>id
 | .fn _,_=>id
 | .lq _,_=>id
 | .m9 _,_=>id
 | .row _,_=>id
 | .any,_=>id
 | .j_ _ _ _,_=>id
theorem bJ.lO(h:∀i a,ρ'[f i]?=af a->ρ[i]?=af a):∀(as:ae AV) {vs:ae ak},bJ G ρ' (ew f as) vs->bJ G ρ as vs
 |[],_=>id
 |v::r,_=> .imp λ aa=> .imp λ aa=> .imp_right<| .imp (VR.lO h v) (bJ.lO h r)
end
theorem OR.eW(h:∀i a,ρ[i]?=af a->ρ'[f i]?=af a){ao:AO}{o:Obj}(q:OR G ρ ao o):OR G ρ' (ly f ao) o:=by
 rcases ao with _|_|_|_|_|_|_|_
 case lst=>exact cR (λ aa=> .imp_right (bJ.eW h _)) q
 case inst=>exact cR (λ aa=> .imp_left (h _ _)) q
 case ns=>exact cR (λ aa=> .imp λ aa=> .imp λ aa=> .imp_right<| .imp_right<|bJ.eW h _) q
 case iO=>exact iQ (.imp λ aa=> .imp λ aa=> .imp λ aa=> .imp_right<| .imp_right<| .imp_left<|bJ.eW h _) q
 case bG=>exact iQ (.imp λ aa=> .imp λ aa=> .imp λ aa=> .imp_right<| .imp_right<| .imp_left<|bJ.eW h _) q
 all_goals exact q
theorem OR.lO(h:∀i a,ρ'[f i]?=af a->ρ[i]?=af a){ao:AO}{o:Obj}(q:OR G ρ' (ly f ao) o):OR G ρ ao o:=by
 rcases ao with _|_|_|_|_|_|_|_
 case lst=>exact cR (λ aa=> .imp_right (bJ.lO h _)) q
 case inst=>exact cR (λ aa=> .imp_left (h _ _)) q
 case ns=>exact cR (λ aa=> .imp λ aa=> .imp λ aa=> .imp_right<| .imp_right<|bJ.lO h _) q
 case iO=>exact iQ (.imp λ aa=> .imp λ aa=> .imp λ aa=> .imp_right<| .imp_right<| .imp_left<|bJ.lO h _) q
 case bG=>exact iQ (.imp λ aa=> .imp λ aa=> .imp λ aa=> .imp_right<| .imp_right<| .imp_left<|bJ.lO h _) q
 all_goals exact q
end
noncomputable def eW(sel:ae Nat)(n:Nat):Nat->Nat:=λ i=>go sel n i
where go:ae Nat->Nat->Nat->Nat
 |[],n,i=>n+i
 |j::_,_,0=>j
 |_::r,n,i+1=>go r n i
theorem M4:∀(sel:ae Nat) (n i j:Nat),sel[i]?=af j->eW.go sel n i=j
 |[],_,_,_=>cm
 |_::_,_,0,_=>am
 |_::r,n,i+1,j=>M4 r n i j
theorem M2(n i:Nat):∀sel:ae Nat,eW.go sel n (sel.length+i)=n+i
 |[]=>ah (n+·) (fB i)
 |j::r=>(ah (eW.go (j::r) n) (cV r.length 1 i)).trans (M2 n i r)
theorem HE{sel:ae Nat}{n i:Nat}(h:sel.length<=i):eW.go sel n i=n+(i - sel.length):=(ah (eW.go sel n) (uR h).symm).trans (M2 n _ sel)
noncomputable def upd(f:Nat->Nat):ae Nat->ae AO->ae AO->ae AO
 |j::sel,o::r,M=>upd f sel r (bz M j (ly f o))
 |[],r,M=>M++Jo f r
 |_::_,[],M=>M
where Jo (f:Nat->Nat):ae AO->ae AO
 |o::r=>ly f o::Jo f r
 |[]=>[]
theorem s4(f:Nat->Nat):∀l:ae AO,upd.Jo f l=l.map (ly f)
 |[]=>rfl
 |o::r=>ah (ly f o::·) (s4 f r)
section
variable(f:Nat->Nat)
theorem H5:∀{sel:ae Nat} {mem M:ae AO},sel.length<=mem.length->(upd f sel mem M).length=M.length+(mem.length - sel.length)
 |[],mem,M=>λ aa=>(ah (λ r=>(M++r).length) (s4 f mem)).trans (bj.trans (ah (M.length+·) (bL _)))
 |_::_,[],_=>λ h=>bt h (jg _)
 |j::sel,o::mem,M=>λ h=>(H5 (sel:=sel) (mem:=mem) (M:=bz M j (ly f o)) (lh h)).trans (congr (ah HAdd.hAdd (fP ..)) (Nat.succ_sub_succ ..).symm)
theorem t7{j:Nat}:∀{sel:ae Nat} {mem M:ae AO},j < M.length->j∉sel->(upd f sel mem M)[j]?=M[j]?
 |[],mem,M=>λ h aa=>dD h
 |_::_,[],_=>λ aa aa=>rfl
 |k::sel,o::mem,M=>λ h n=>(t7 (sel:=sel) (mem:=mem) (M:=bz M k (ly f o)) (ir h (fP ..).symm) λ m=>n (.tail _ m)).trans
   ((eO ..).symm.trans ((dV λ(e:j=k)=>n (e▸ .head _)).trans (eO ..)))
theorem H7{ao:AO}{j:Nat}:∀{sel:ae Nat} {mem M:ae AO} {i:Nat},sel.Nodup->(∀j∈sel,j < M.length)->sel[i]?=af j->mem[i]?=af ao->(upd f sel mem M)[j]?=af (ly f ao)
 |[],_,_,_=>λ aa aa h=>cm h
 |_::_,[],_,_=>λ aa aa aa h=>cm h
 |k::sel,o::mem,M,0=>λ hn hb h1 h2=>have e:k=j:=am h1; (t7 f (sel:=sel) (mem:=mem) (M:=bz M k (ly f o)) (ir (e▸hb k (.head _)) (fP ..).symm) (e▸(dU.mp hn).1)).trans
   ((eO ..).symm.trans (e▸(iY (hb k (.head _))).trans (ah (λ o=>af (ly f o)) (am h2))))
 |k::sel,o::mem,M,i+1=>λ hn hb h1 h2=>H7 (sel:=sel) (mem:=mem) (M:=bz M k (ly f o)) (i:=i) (dU.mp hn).2 (λ j hj=>ir (hb j (.tail _ hj)) (fP ..).symm) h1 h2
theorem H6{i:Nat}:∀{sel:ae Nat} {mem M:ae AO},sel.length<=mem.length->(upd f sel mem M)[M.length+i]?=(mem[sel.length+i]?).map (ly f)
 |[],mem,M=>λ aa=>by
  show(M++upd.Jo f mem)[M.length+i]?=_
  rw[s4,eR (bq _ _),hV,eT,List.length_nil,fB]
 |_::_,[],_=>λ h=>bt h (jg _)
 |k::sel,o::mem,M=>λ h=>(ah (λ n=>(upd f sel mem (bz M k (ly f o)))[n+i]?) (fP ..).symm).trans ((H6 (sel:=sel) (mem:=mem) (M:=bz M k (ly f o)) (lh h)).trans
   (ah (λ n=>((o::mem)[n]?).map (ly f)) (cV sel.length i 1)))
end
noncomputable def x8(ρ:ae au)(sel:ae Nat):ae au:=sel.filterMap λ j=>ρ[j]?
theorem KB{ρ:ae au}{j:Nat}{sel:ae Nat}{a:au}(h:ρ[j]?=af a):x8 ρ (j::sel)=a::x8 ρ sel:=jX h
theorem zT{ρ:ae au}:∀{sel:ae Nat},(∀j∈sel,j < ρ.length)->(x8 ρ sel).length=sel.length/\∀i:Nat,(x8 ρ sel)[i]?=(sel[i]?).bind λ j=>ρ[j]?
 |[],_=>⟨rfl,λ i=>rfl⟩
 |j::sel,h=>by
  have z:=zT (ρ:=ρ) (sel:=sel) λ k hk=>h k (.tail _ hk)
  refine(oV (h j (.head _))).elim λ a e=>?_
  rw[KB e]
  refine⟨ah (·+1) z.1,λ i=>?_⟩
  rcases i with _|i
  ·exact e.symm
  ·exact z.2 i
theorem ER{G:BM}{ρ:ae au}{s s':ar}{M:ae AO}{K:AV->ae AO->Prop}{v:ak}{sel:ae Nat}(R:RM G ρ M s.heap)(vH:sel.Nodup)(al:(x8 ρ sel).length=sel.length)(inb:∀j∈sel,j < M.length)
  (r1:∀{i j:Nat},sel[i]?=af j->eW sel M.length i=j) (Kx:∀{i j:Nat},sel[i]?=af j->(x8 ρ sel)[i]?=ρ[j]?) (uq:∀{j k:Nat} {a:au},ρ[j]?=af a->ρ[k]?=af a->j=k) (sub:∀a∈x8 ρ sel,∃j∈sel,ρ[j]?=af a) (Rn:∀a∈x8 ρ sel,a∈ρ):
  WQ G (x8 ρ sel) s K v s'->WQ G ρ s (λ av M'=>∃pq mem',K pq mem'/\av=eA (eW sel M.length) pq/\M'=upd (eW sel M.length) sel mem' M/\sel.length<=mem'.length) v s':=by
 rintro ⟨G',c8,av,mem',⟨g,⟨τ,rfl⟩,dS,va,hk⟩,kp,nw,gf,gz⟩
 have hl:=dS.len
 rw[bj,al] at hl
 have hl1:sel.length<=mem'.length:=hl▸bq _ _
 have off:∀{i},sel.length<=i->eW sel M.length i=M.length+(i - sel.length):=HE
 have left:∀{i},i < sel.length->(x8 ρ sel++τ)[i]?=(x8 ρ sel)[i]?:=λ hi=>dD (al.symm▸hi)
 have right:∀{d:Nat},(x8 ρ sel++τ)[sel.length+d]?=τ[d]?:=λ{d}=>(eR (al.symm▸bq _ _)).trans (ah (τ[·]?) (al.symm▸hV ..))
 have right':∀{d:Nat},(ρ++τ)[M.length+d]?=τ[d]?:=λ{d}=>(eR (R.len.symm▸bq _ _)).trans (ah (τ[·]?) (R.len.symm▸hV ..))
 have fwd:∀(i:Nat) (a:au),(x8 ρ sel++τ)[i]?=af a->(ρ++τ)[eW sel M.length i]?=af a:=λ i a e=>
  (D_ i sel.length).elim (λ hi=>(oV hi).elim λ j hj=>(r1 hj).symm▸Ext.get ⟨τ,rfl⟩ ((Kx hj).symm.trans ((left hi).symm.trans e)))
   λ hi=>(off hi).symm▸right'.trans (right.symm.trans ((ah ((x8 ρ sel++τ)[·]?) (uR hi)).trans e))
 have nd:=gU.mp dS.nd
 have tn:∀a∈τ,s.heap.get? a=none:=λ a ha=>(nw a (cD _ ha)).elim (λ q=>bt rfl (nd.2.2 a q a ha)) id
 have abg:∀a∈ρ,G' a=none:=λ a ha=>none_of λ o e=>(gf a o e).elim (dh (R.fr a ha)) λ q=>(R.some_of ha).elim λ aa=>dh q
 have old:∀{j a ao},ρ[j]?=af a->j < M.length->(upd (eW sel M.length) sel mem' M)[j]?=af ao->∃o,s'.heap.get? a=af o/\OR G' (ρ++τ) ao o:=λ{j a ao} hj hjl e=>
  (d5 (j∈sel)).elim (λ hs=>(l7 hs).elim λ i hi=>(oV (fw (ju hi) hl1)).elim λ x hx=>
    am ((H7 _ vH inb hi hx).symm.trans e)▸(dS.obj i a x ((left (ju hi)).trans ((Kx hi).trans hj)) hx).imp λ aa=> .imp_right (OR.eW fwd))
   λ hs=>(R.obj j a ao hj ((t7 _ hjl hs).symm.trans e)).imp λ o=> .imp (kp a o λ hm=>(sub a hm).elim λ k hk=>hs (uq hj hk.2▸hk.1)) (OR.up g ⟨τ,rfl⟩)
 have new:∀{d a ao},τ[d]?=af a->(upd (eW sel M.length) sel mem' M)[M.length+d]?=af ao->∃o,s'.heap.get? a=af o/\OR G' (ρ++τ) ao o:=λ{d a ao} hj e=>
  (eM.mp ((H6 _ hl1).symm.trans e)).elim λ x hx=>hx.2▸(dS.obj _ a x (right.trans hj) hx.1).imp λ aa=> .imp_right (OR.eW fwd)
 exact⟨G',ρ++τ,eA (eW sel M.length) av,upd (eW sel M.length) sel mem' M,⟨g,⟨τ,rfl⟩,⟨dS.kg,by rw[H5 _ hl1,bj,R.len,← hl,hV],
   λ j a ao hj e=>(D_ j M.length).elim (λ hl=>old ((dD (R.len.symm▸hl)).symm.trans hj) hl e) λ hl=>have z:=uR hl; new (right'.symm.trans ((ah ((ρ++τ)[·]?) z).trans hj)) ((ah ((upd (eW sel M.length) sel mem' M)[·]?) z).trans e),
   gU.mpr ⟨R.nd,nd.2.1,λ a ha b hb e=>(R.some_of ha).elim λ aa=>dh (tn a (e▸hb))⟩,λ a ha=>(fS.mp ha).elim (abg a) λ ha=>dS.fr a (cD _ ha)⟩,va.eW fwd,av,mem',hk,rfl,rfl,hl1⟩,
  λ a o n e=>kp a o (λ hm'=>n (Rn a hm')) e,λ a ha=>(fS.mp ha).imp_right (tn a),gf,gz⟩
theorem yU{P:cC}{f:au}{dx:ae AV}{mem:ae AO}{K:AV->ae AO->Prop}(Rp:ae au->Prop)(acq:∀(A:bn) (G:BM) (ρ:ae au) (s:ar) (vs:ae ak),Rp ρ->mG A P.d->P.Φ G->RM G ρ mem s.heap->bJ G ρ dx vs->
  dP P.j (aE P.prog P.w) A (.call (.ref f) ⟨vs,[]⟩) (Ht (WQ G ρ s K)) s) (sel:ae Nat) (M:ae AO) (vH:sel.Nodup) (len:sel.length=mem.length)
  (hm:∀(i:Nat) (j:Nat) (ao:AO),sel[i]?=af j->mem[i]?=af ao->M[j]?=af (ly (eW sel M.length) ao)) (A:bn) (G:BM) (ρ:ae au) (s:ar) (vs:ae ak) (hR:Rp (x8 ρ sel)) (room:mG A P.d) (ja:P.Φ G) (R:RM G ρ M s.heap) (hv:bJ G ρ (ew (eW sel M.length) dx) vs):
  dP P.j (aE P.prog P.w) A (.call (.ref f) ⟨vs,[]⟩) (Ht (WQ G ρ s λ av M'=>∃pq mem',K pq mem'/\av=eA (eW sel M.length) pq/\M'=upd (eW sel M.length) sel mem' M/\sel.length<=mem'.length)) s:=by
 have inb:∀j∈sel,j < M.length:=λ j hj=>(l7 hj).elim λ i hi=>(oV (len▸ju hi)).elim λ aa e=>ju (hm i j _ hi e)
 have ag:=zT (ρ:=ρ) λ j hj=>R.len▸inb j hj
 have r1:∀{i j},sel[i]?=af j->eW sel M.length i=j:=λ{i j}=>M4 sel _ i j
 have Kx:∀{i j},sel[i]?=af j->(x8 ρ sel)[i]?=ρ[j]?:=λ{i j} h=>(ag.2 i).trans (ah (Option.bind · λ j=>ρ[j]?) h)
 have back:∀(i:Nat) (a:au),ρ[eW sel M.length i]?=af a->(x8 ρ sel)[i]?=af a:=λ i a e=>
  (D_ i sel.length).elim (λ hi=>(oV hi).elim λ j hj=>(Kx hj).trans (r1 hj▸e)) λ hi=>bt (ju e) (Nat.not_lt.mpr (aG (aV R.len) (aG (bq _ _) (aV (HE (n:=M.length) hi).symm))))
 have sub:∀a∈x8 ρ sel,∃j∈sel,ρ[j]?=af a:=λ a ha=>JE.mp ha
 have Rn:∀a∈x8 ρ sel,a∈ρ:=λ a ha=>(sub a ha).elim λ aa h=>iq h.2
 have uq:∀{j k a},ρ[j]?=af a->ρ[k]?=af a->j=k:=λ{j k a} h1 h2=>(n7 (ju h1) R.nd).mp (h1.trans h2.symm)
 have R₀:RM G (x8 ρ sel) mem s.heap:=
  ⟨R.kg,ag.1.trans len,λ i a ao hi e=>(oV (len.symm▸ju e)).elim λ j hj=>(R.obj j a _ ((Kx hj).symm.trans hi) (hm i j ao hj e)).imp λ aa=> .imp_right (OR.lO back),
   List.Pairwise.filterMap (R:=(·≠·)) (S:=(·≠·)) (λ j=>ρ[j]?) (λ j k hjk a ha b hb (e:a=b)=>hjk (uq ha (Eq.trans hb (ah af e.symm)))) vH,λ a ha=>R.fr a (Rn a ha)⟩
 exact X.eu (acq A G (x8 ρ sel) s vs hR room ja R₀ (bJ.lO back _ hv)) (oy λ v s'=>ER R vH ag.1 inb r1 Kx uq sub Rn)
theorem WC.Cc{P:cC}{f:au}{dx:ae AV}{mem:ae AO}{K:AV->ae AO->Prop}(h:WC P f dx mem K)(sel:ae Nat)(M:ae AO)(vH:sel.Nodup)(len:sel.length=mem.length)
  (hm:∀(i:Nat) (j:Nat) (ao:AO),sel[i]?=af j->mem[i]?=af ao->M[j]?=af (ly (eW sel M.length) ao)):
  WC P f (ew (eW sel M.length) dx) M (λ av M'=>∃pq mem',K pq mem'/\av=eA (eW sel M.length) pq/\M'=upd (eW sel M.length) sel mem' M/\sel.length<=mem'.length):=
 ⟨λ A G ρ s vs room ja R hv=>yU (λ aa=>True) (λ A G ρ s vs aa room ja R hv=>h.run A G ρ s vs room ja R hv) sel M vH len hm A G ρ s vs trivial room ja R hv⟩
section
variable(ko:bI->aq dJ){x:bI}{v:ak}
theorem yH:∀{b:ae (bI×ak)} (m:bI->aq ak),x∉b.map (·.1)->bindL ko b m x=m x
 |[],_=>λ aa=>rfl
 |(n,w)::r,m=>λ h=>(yH _ λ z=>h (.tail _ z)).trans (by
  split
  ·exact bC λ(e:x=n)=>h (e▸ .head _)
  ·rfl)
theorem yG:∀{b:ae (bI×ak)} (m:bI->aq ak),x∉b.map (·.1)->bindC ko b m x=m x
 |[],_=>λ aa=>rfl
 |(n,w)::r,m=>λ h=>(yG _ λ z=>h (.tail _ z)).trans (by
  split
  ·rfl
  ·exact bC λ(e:x=n)=>h (e▸ .head _))
theorem wl(hk:ko x=af .local):∀{b:ae (bI×ak)} (m:bI->aq ak),(b.map (·.1)).Nodup->(x,v)∈b->bindL ko b m x=af v
 |[],_=>λ aa h=>bt h bK
 |(n,u)::r,m=>λ hn h=>have hn:=dU.mp hn; (bQ.mp h).elim
  (λ e=>by cases e; exact(yH ko _ hn.1).trans ((congrFun (dq hk) x).trans (dq rfl))) λ h=>wl hk (b:=r) _ hn.2 h
theorem B0(hk:ko x=af .cell):∀{b:ae (bI×ak)} (m:bI->aq ak),(b.map (·.1)).Nodup->(x,v)∈b->bindC ko b m x=af v
 |[],_=>λ aa h=>bt h bK
 |(n,u)::r,m=>λ hn h=>have hn:=dU.mp hn; (bQ.mp h).elim
  (λ e=>by cases e; exact(yG ko _ hn.1).trans ((congrFun (bC λ(z:ko x=af .local)=>nomatch hk.symm.trans z) x).trans (dq rfl))) λ h=>B0 hk (b:=r) _ hn.2 h
end
noncomputable def fdO(o:Obj):dR:=match o.data with
 | .func fd=>fd
 |_=>default
noncomputable def fdOf(K:eJ)(f:au):dR:=match K.lookup f with
 |some o=>fdO o
 |none=>default
structure J3(P:cC)(ct:Ct)(xs:ae bI)(dv:ae ak)(body:ae f5)(fd:dR)(gb:aC:=false):Prop where
 body:fd.body= .stmts body
 scope:fd.scope.names=ct.names
 kind:fd.scope.kind= .function
 gen:fd.scope.isGenerator=gb
 co:fd.scope.isCoroutine=false
 T4:fd.closure=[]
 glob:fd.globals=dk
 blt:fd.builtins=li
 code:codeIn P.K fd.code fd.qualname=true
 cq:ct.cq=true->fd.code= .ref wq/\fd.qualname="scan_conditioning"/\kJ P.K=true
 bind:∀(s:ar) (vals:ae ak),P.K.In s.heap->vals.length+dv.length=xs.length->mV s fd ⟨vals,[]⟩ (xs.zip (vals++dv))
 names:ct.aS.Nodup
 pre:∃r,ct.aS=xs++r
 kinds:∀x∈xs,ct.names.lookup x=af .local\/ct.names.lookup x=af .cell
structure FnAt(P:cC)(ct:Ct)(f:au)(xs:ae bI)(dv:ae ak)(body:ae f5):Prop where
 it:∃oc od Zo,P.K.lookup f=af (⟨oc,od, .func (fdOf P.K f),Zo⟩:Obj)
 fd:J3 P ct xs dv body (fdOf P.K f)
noncomputable def fill:ae bI->ae AV->ae AV
 |_::r,v::vs=>v::fill r vs
 |_::r,[]=> .undef::fill r []
 |[],_=>[]
theorem wA{v:AV}(n:v≠ .undef):∀{aS:ae bI} {vs:ae AV} {i:Nat},(fill aS vs)[i]?=af v->vs[i]?=af v
 |_::r,w::vs,0=>id
 |_::r,w::vs,i+1=>wA n (aS:=r) (vs:=vs) (i:=i)
 |_::r,[],0=>λ h=>bt (am h).symm n
 |_::r,[],i+1=>wA n (aS:=r) (vs:=[]) (i:=i)
 |[],vs,i=>cm
theorem room_in{a c d k e:Nat}(h:a+(c * d+c) < k)(he:e<=c):a+e+c * d < k:=aU (aG (aV (cV ..)) (aG (hN he _) (aV (Nat.add_assoc ..)))) h
theorem mG.deeper{A:bn}{d:Nat}(room:mG A (d+1)){env:Env}:mG (A.deeper env) d:=⟨room_in (e:=1) room.1 (by decide),room_in (e:=3) room.2.1 (by decide),room.2.2⟩
def iH(K:AV->ae AO->Prop)(f:Fl)(σ:St):Prop:=match f with
 | .ret v=>K v σ.mem
 | .d8=>K .none σ.mem
section
variable{A:bn}{env:Env}{ro:aC}{G:BM}{ρ:ae au}{mem:ae AO}{s s₁:ar}{aS xs rest:ae bI}{locs as:ae AV}{us:ae ak}{x:bI}{v:AV}{u:ak}{i:Nat}
theorem RM.A1{P:cC}{h:Heap}{Q:Prop}(R:RM G ρ mem h)(ja:P.Φ G)(k:∀B p loose mg mb,P.K.In B->n8 p loose mg mb B->(∀a o,B.get? a=af o->h.get? a=af o)->Q):Q:=
 (P.base G ja).elim λ B h=>h.elim λ p h=>h.elim λ l h=>h.elim λ mg h=>h.elim λ mb h=>k B p l mg mb h.1 h.2.1 λ a o e=>R.kg a o (h.2.2 a o e)
theorem RM.out{h:Heap}(R:RM G ρ mem h){a:au}(ha:h.get? a=none):a∉ρ:=λ hm=>(R.some_of hm).elim λ aa=>dh ha
theorem Kw(LP:aS=xs++rest)(hl:us.length=xs.length)(hv:bJ G ρ as us)(e:aS[i]?=af x)(e':(fill aS as)[i]?=af v)(n:v≠ .undef):∃u,VR G ρ v u/\(x,u)∈xs.zip us/\x∈xs:=
 (hv.get (wA n e')).elim λ u z=>have q:xs[i]?=af x:=(dD (ir (ju z.1) hl)).symm.trans (LP▸e)
  ⟨u,z.2,dB (i:=i) (List.getElem?_zip_eq_some.mpr ⟨q,z.1⟩),dB q⟩
theorem TL{bs:ae (bI×ak)}(ic:InCallC s env.locals (bindL env.kindOf bs λ aa=>none) env.cells (bindC env.kindOf bs λ aa=>none) s₁)(hn:(bs.map (·.1)).Nodup)(hm:(x,u)∈bs)(hc:env.kindOf x=af .cell->∃c,env.cells.lookup x=af c)
  (hk:env.kindOf x=af .local\/env.kindOf x=af .cell):At env s₁.heap x u:=
 hk.imp (λ q=>⟨q,_,ic.toInCall.ns,wl _ q _ hn hm⟩) λ q=>⟨.inl q,(hc q).imp λ c e=>⟨e,B0 _ q (λ aa=>none) hn hm▸ic.cell x c e⟩⟩
theorem RF.first(R:RM G ρ mem s.heap)(kp:∀a o,s.heap.get? a=af o->s₁.heap.get? a=af o)(dead:s.heap.get? env.locals=none)(ns:∃m,s₁.heap.Ns env.locals m)
  (cell:∀x c,env.cells.lookup x=af c->c≠env.locals/\c∉ρ/\(∃v,s₁.heap.IsCell c v)/\(env.kindOf x=af .cell->G c=none)) (p9:∀x y c,env.cells.lookup x=af c->env.cells.lookup y=af c->x=y)
  (loc:∀(i:Nat) (x:bI) (v:AV),aS[i]?=af x->locs[i]?=af v->v≠ .undef->∃u,VR G ρ v u/\At env s₁.heap x u) (z:GZ s s₁):RF ⟨A,env,s.heap,ρ,G,s,ro⟩ aS G ρ ⟨locs,mem⟩ s₁:=
 ⟨R.keeps kp,ns,loc,R.yz dead,R.out dead,cell,p9,λ a o aa aa e=>kp a o e,λ a o e=>⟨o,kp a o e⟩,Ext.refl _,λ aa h=> .inl h,dG.refl _,λ aa aa e=> .inl e,z⟩
theorem RF.leave{G':BM}{ρ':ae au}{σ:St}{s':ar}{K:AV->ae AO->Prop}(dead:s.heap.get? env.locals=none)(cd:∀x c,env.cells.lookup x=af c->env.kindOf x=af .cell->ro=false->s.heap.get? c=none)(g:dG G G')(x:Ext ρ ρ')
  (R:RF ⟨A,env,s.heap,ρ,G,s,ro⟩ aS G' ρ' σ s') (va:VR G' ρ' v u) (k:K v σ.mem):WQ G ρ s K u s':=
 ⟨G',ρ',v,σ.mem,⟨g,x,R.rm,va,k⟩,λ a o n e=>R.keep a o n ⟨λ z=>dh dead (z▸e),λ hr y hy hc=>dh (cd y a hc hy hr) e⟩ e,R.nw,R.Bp,R.gz⟩
end
theorem WC.fn1{P:cC}{ct:Ct}{f:au}{xs:ae bI}{dv:ae ak}{da:ae AV}{b:SS P ct}{dx:ae AV}{mem:ae AO}{K:AV->ae AO->Prop}{fd:dR}{o:Obj}{A:bn}{G:BM}{ρ:ae au}{s:ar}{vs:ae ak}(D:J3 P ct xs dv b.bA fd)
  (ho:s.heap.get? f=af o) (hf:o.data= .func fd) (hK:P.K.In s.heap) (lim:s.heap.NoLimit) (hd:bJ G ρ da dv) (ch:b.ch=true) (hl:dx.length+dv.length=xs.length) (h:b.run ⟨fill ct.aS (dx++da),mem⟩ (iH K)) (LQ:ct.tb=true->ρ[0]?=af dM)
  (room:mG A (P.d+1)) (ja:P.Φ G) (R:RM G ρ mem s.heap) (hv:bJ G ρ dx vs):dP P.j (aE P.prog P.w) A (.call (.ref f) ⟨vs,[]⟩) (Ht (WQ G ρ s K)) s:=by
 have hb:vs.length+dv.length=xs.length:=hv.length▸hl
 have hus:(vs++dv).length=xs.length:=bj.trans hb
 have LJ:(xs.zip (vs++dv)).map (·.1)=xs:=hJ (aV hus.symm)
 have ok:∀(x:bI),ct.names.lookup x=af .cell->((cellsFrom (s.heap.objs.size+1) fd.scope.names []).lookup x).isSome=true:=λ x q=>cellsFrom_some _ _ _ (.inl (D.scope▸q))
 refine X.KQ (aU (bq _ _) (b_ room.1 (by decide))) ho hf lim (codeRec_of hK D.code) D.body (D.bind s vs hK hb) D.T4
  (λ x hx=>(D.kinds x.1 (LJ▸hF hx)).imp (D.scope▸id) λ q=>⟨D.scope▸q,ok _ q⟩) D.co D.gen D.kind λ s₁ ic=>?_
 have dead:∀a,s.heap.objs.size<=a->s.heap.get? a=none:=λ a=>df
 have up:∀x c,(eE fd s.heap.objs.size f).cells.lookup x=af c->s.heap.objs.size < c:=λ x c e=>ic.above x c (mem_of_lookup e)
 have hk:∀x,(eE fd s.heap.objs.size f).kindOf x=ct.names.lookup x:=λ x=>ah (·.lookup x) D.scope
 have ce:∀x,(eE fd s.heap.objs.size f).kindOf x=af .cell->∃c,(eE fd s.heap.objs.size f).cells.lookup x=af c:=λ x q=>jx.mp (ok x (hk x▸q))
 refine X.mono (b.ok ch ⟨A.deeper (eE fd s.heap.objs.size f),eE fd s.heap.objs.size f,s.heap,ρ,G,s,ct.ro⟩ G ρ _ s₁ (iH K)
  {kind:=D.kind,names:=D.scope,glob:=D.glob,blt:=D.blt,ja:=ja,vH:=D.names,ro:=rfl,cells:=λ x q=>ce x (hk x▸q),tb:=LQ,room:=room.deeper
   cq:=λ e=>have q:=D.cq e; ⟨q.1,ah (λ q:bI=>q++bT ".<locals>.") q.2.1,q.2.2⟩}
  (RF.first R ic.toInCall.keep (dead _ (cF _)) ⟨_,ic.toInCall.ns⟩ (λ x c e=>have u:=up x c e; have d:=dead c (eZ u); ⟨uU u,R.out d,⟨_,ic.cell x c e⟩,λ aa=>R.yz d⟩)
   (λ x y c e e'=>name_of_addr ic.apart (mem_of_lookup e) (mem_of_lookup e')) (λ i x v e e' n=>D.pre.elim λ r hp=>(Kw hp hus (hv.append hd) e e' n).imp λ u z=>
    ⟨z.1,TL ic (LJ.symm▸(gU.mp (hp▸D.names)).1) z.2.1 (ce x) (hk x▸D.kinds x z.2.2)⟩) (ic.done.elim λ h' q=>q.elim λ tk q=>q.1▸GZ.of ⟨rfl,rfl,rfl⟩)) h) λ fl s' z=>z.u λ G' ρ' fl' b8 g x R' fr hk=>?_
 have lv:=RF.leave (K:=K) (v:=match fl' with | .ret v=>v | .d8=> .none) (u:=match fl with | .ret v=>v|_=> .none) (dead _ (cF _)) (λ x c e aa aa=>dead c (eZ (up x c e))) g x R'
 rcases fl' with _|v
 ·cases(show fl= .next from fr)
  exact lv VR.none_ hk
 ·obtain⟨u,rfl,vu⟩:=fr
  exact lv vu hk
section
variable{P:cC}{ct:Ct}{f:au}{xs:ae bI}{dv:ae ak}{da:ae AV}{b:SS P ct}{dx:ae AV}{mem:ae AO}{K K':AV->ae AO->Prop}
theorem WC.fn0(H:FnAt P ct f xs dv b.bA)(hd:∀G ρ,bJ G ρ da dv)(ch:b.ch=true)(hl:dx.length+dv.length=xs.length)(h:b.run ⟨fill ct.aS (dx++da),mem⟩ (iH K))(A:bn)(G:BM)(ρ:ae au)(s:ar)(vs:ae ak)
  (LQ:ct.tb=true->ρ[0]?=af dM) (room:mG A P.up.d) (ja:P.up.Φ G) (R:RM G ρ mem s.heap) (hv:bJ G ρ dx vs):dP P.j (aE P.prog P.w) A (.call (.ref f) ⟨vs,[]⟩) (Ht (WQ G ρ s K)) s:=
 R.A1 (P:=P) ja λ aa aa aa aa aa b1 b2 b3=>have hK:=b1.keeps b3; H.it.elim λ aa k=>k.elim λ aa k=>k.elim λ aa k=>WC.fn1 H.fd (hK _ _ k) rfl hK (b2.nolimit.keeps b3) (hd G ρ) ch hl h LQ room ja R hv
theorem WC.fn(H:FnAt P ct f xs dv b.bA)(hd:∀G ρ,bJ G ρ da dv)(ch:b.ch=true)(LQ:ct.tb=false)(hl:dx.length+dv.length=xs.length)(h:b.run ⟨fill ct.aS (dx++da),mem⟩ (iH K)):WC P.up f dx mem K:=
 ⟨λ A G ρ s vs=>WC.fn0 H hd ch hl h A G ρ s vs λ e=>ay (LQ.symm.trans e)⟩
structure pj(P:cC)(f:au)(dx:ae AV)(mem:ae AO)(K:AV->ae AO->Prop):Prop where
 run:∀(A:bn) (G:BM) (ρ:ae au) (s:ar) (vs:ae ak),ρ[0]?=af dM->mG A P.d->P.Φ G->RM G ρ mem s.heap->bJ G ρ dx vs->
  dP P.j (aE P.prog P.w) A (.call (.ref f) ⟨vs,[]⟩) (Ht (WQ G ρ s K)) s
theorem pj.fn(H:FnAt P ct f xs dv b.bA)(hd:∀G ρ,bJ G ρ da dv)(ch:b.ch=true)(hl:dx.length+dv.length=xs.length)(h:b.run ⟨fill ct.aS (dx++da),mem⟩ (iH K)):pj P.up f dx mem K:=
 ⟨λ A G ρ s vs ht=>WC.fn0 H hd ch hl h A G ρ s vs λ aa=>ht⟩
theorem pj.mono(h:pj P f dx mem K)(k:∀a m,K a m->K' a m):pj P f dx mem K':=
 ⟨λ A G ρ s vs t r p m v=>X.eu (h.run A G ρ s vs t r p m v) (oy λ aa aa=>WQ.mono k)⟩
theorem pj.Cc(h:pj P f dx mem K)(sel:ae Nat)(M:ae AO)(h0:sel[0]?=af 0)(vH:sel.Nodup)(len:sel.length=mem.length)
  (hm:∀(i:Nat) (j:Nat) (ao:AO),sel[i]?=af j->mem[i]?=af ao->M[j]?=af (ly (eW sel M.length) ao)):
  pj P f (ew (eW sel M.length) dx) M (λ av M'=>∃pq mem',K pq mem'/\av=eA (eW sel M.length) pq/\M'=upd (eW sel M.length) sel mem' M/\sel.length<=mem'.length):=
 ⟨λ A G ρ s vs t room ja R hv=>yU (λ ρ=>ρ[0]?=af dM) (λ A G ρ s vs t room ja R hv=>h.run A G ρ s vs t room ja R hv) sel M vH len hm A G ρ s vs
  (((zT (ρ:=ρ) (sel:=sel) λ j hj=>(l7 hj).elim λ i hi=>(oV (len▸ju hi)).elim λ aa e=>R.len▸ju (hm i j _ hi e)).2 0).trans ((ah (Option.bind · λ j=>ρ[j]?) h0).trans t)) room ja R hv⟩
end
section
variable{P:cC}{ct:Ct}
theorem Aq{M:iy}{a:au}(h:Heap)(X:∃o fd,h.get? a=af o/\o.data= .func fd):∃k,(k=Bb\/k=xL\/k=tt)/\Looks M h (keeperOf (.ref a)) k:=by
 obtain⟨o,fd,ho,hd⟩:=X
 refine⟨.frame, .inl rfl,λ A Q E s k q=>?_⟩
 unfold keeperOf
 dsimp only
 refine aj (iU (k _ _ ho) ?_)
 rw[hd]
 exact aw q
theorem Ht.u{K:ak->ar->Prop}{Q:iT->ar->Prop}{r:iT}{s:ar}(h:Ht K r s)(k:∀v,K v s->Q (.ok (.ret v)) s):Q r s:=by
 rcases r with _|(_|_|_|v)
 case ok.ret=>exact k v h
 all_goals exact h.elim
theorem WQ.pe{F:Fd}{G:BM}{ρ:ae au}{σ:St}{s s':ar}{v:ak}{Kv:AV->St->Prop}(R:RF F ct.aS G ρ σ s)(z:WQ G ρ s (λ v m'=>Kv v ⟨σ.loc,m'⟩) v s'):PE F ct.aS G ρ Kv v s':=by
 rcases z with⟨G',ρ',av,mem',z,kp,nw,gf,gz⟩
 exact⟨G',ρ',av,⟨σ.loc,mem'⟩,z.1,z.2.1,R.HO z.2.1 z.1 z.2.2.1 nw gf kp gz,z.2.2.2.1,z.2.2.2.2⟩
theorem WC.take{f:au}{dx:ae AV}{F:Fd}{G:BM}{ρ:ae au}{σ:St}{s:ar}{vs:ae ak}{Kv:AV->St->Prop}(O:gO P ct F)(R:RF F ct.aS G ρ σ s)(va:bJ G ρ dx vs)
  (h:WC P f dx σ.mem λ v m'=>Kv v ⟨σ.loc,m'⟩):WP P F.A (call (.ref f) vs []) (PE F ct.aS G ρ Kv) s:=
 X.calls (X.eu (h.run F.A G ρ s vs O.room (R.ja O) R.rm va) λ r s' z=>z.u (Q:=λ r s'=>match r with | .ok (.ret v)=>PE F ct.aS G ρ Kv v s'|_=>False) λ v z=>z.pe R)
def Zn(a:AV)(K:au->Prop):Prop:=match a with
 | .fn g=>K g
 |_=>False
theorem Vt{a:AV}{K:au->Prop}(h:Zn a K):∃f,a= .fn f/\K f:=by
 rcases a with _|_|_|_|_|_|_|f|_|_|_|_|_|_|_|_|_|_
 case fn=>exact⟨f,rfl,h⟩
 all_goals exact h.elim
def sV{α:Type}(o:aq α)(K:α->Prop):Prop:=match o with
 |some x=>K x
 |none=>False
theorem sV.u{α:Type}{o:aq α}{K:α->Prop}{Q:Prop}(h:sV o K)(k:∀x,o=af x->K x->Q):Q:=by
 rcases o with _|x
 ·exact h.elim
 ·exact k x rfl h
theorem qF{α:Type}{o:aq α}{x:α}{K:α->Prop}(e:o=af x)(k:K x):sV o K:=e▸k
noncomputable def Vx(s:AS)(outs:ae (TV×ae TO)):ae (TV×AS):=outs.map λ o=>(o.1,⟨s.loc,o.2⟩)
theorem cC.Sq(P:cC):P.dn.Le P:=⟨rfl,rfl,Nat.sub_le _ _, .inr rfl,λ aa h=>h⟩
theorem DW.d2{g:au}{vs:ae AV}{s:AS}{σ:St}{outs:ae (TV×ae TO)}(h:DW P.dn g vs σ.mem outs)(gs:GS s σ):D2 (λ K=>WC P g vs σ.mem λ v m'=>K v ⟨σ.loc,m'⟩) GV (Vx s outs):=
 h.imp λ v h=>h.elim λ m' h=>⟨⟨σ.loc,m'⟩,h.1.elim λ o q=>⟨_,dN.mpr ⟨o,q.1,rfl⟩,q.2.1,gs.loc,q.2.2⟩,λ K k=>(h.2.up P.Sq).mono λ a m z=>z.1▸z.2▸k⟩
section
variable{F:Fd}{G:BM}{ρ:ae au}{σ:St}{s:ar}{Q:ak->ar->Prop}
theorem Hm(f:SE P ct)(as:SL P ct){cp:c9}(hf:∃x q,f.bA= .Name x q)(cf:f.ch=true)(ca:as.ch=true)(O:gO P ct F)(R:RF F ct.aS G ρ σ s){Kn:AV->St->Prop}(h:f.run σ Kn)
  (k:∀dW c8 a aI u s₁,dG G dW->Ext ρ c8->RF F ct.aS dW c8 aI s₁->VR dW c8 a u->Kn a aI->cL P.j (aE P.prog P.w) F.A (callWith cp u [] (backTo cp (fD as.bA F.env)) []) Q s₁):cL P.j (aE P.prog P.w) F.A (eval (.Call f.bA as.bA [] cp) F.env) Q s:=
 hf.elim λ x hf=>hf.elim λ q hf=>(ah (λ n=>cL P.j (aE P.prog P.w) F.A (eval (.Call n as.bA [] cp) F.env) Q s) hf).mpr (X.p4 (X.mono (hf▸f.ok cf F G ρ σ s _ O R h) λ u s₁ z=>z.u λ dW c8 a aI fQ fu dS va bH=>k dW c8 a aI u s₁ fQ fu dS va bH))
theorem zX(f:SE P ct)(as:SL P ct){cp:c9}(hf:∃x q,f.bA= .Name x q)(cf:f.ch=true)(ca:as.ch=true)(O:gO P ct F)(R:RF F ct.aS G ρ σ s){Kc:au->ae AV->St->Prop}(h:f.run σ λ fv aI=>Zn fv λ g=>as.run aI λ vs aW=>Kc g vs aW)
  (k:∀g dx vs jr g8 aW bp,dG G jr->Ext ρ g8->RF F ct.aS jr g8 aW bp->bJ jr g8 dx vs->Kc g dx aW->cL P.j (aE P.prog P.w) F.A (call (.ref g) vs []) Q bp):cL P.j (aE P.prog P.w) F.A (eval (.Call f.bA as.bA [] cp) F.env) Q s:=
 Hm f as hf cf ca O R h λ dW c8 a aI u s₁ fQ fu dS va bH=>by
  obtain⟨g,rfl,bH⟩:=Vt bH
  obtain⟨rfl,o,fd,ho,hd⟩:=va
  exact X.uo (Pm:=λ h=>∃o fd,h.get? g=af o/\o.data= .func fd) (as.plain _ _) Aq (X.mono (as.ok ca F dW c8 aI s₁ _ _ O dS bH) λ vs bp z=>z.u λ jr g8 dx aW jk jw gP q9 w=>⟨⟨o,fd,gP.rm.kg _ _ (jk _ _ ho),hd⟩,k g dx vs jr g8 aW bp (fQ.trans jk) (fu.trans jw) gP q9 w⟩)
end
def DT(f:SE P ct)(as:SL P ct)(p:c9):SE P ct where
 bA:= .Call f.bA as.bA [] p
 run:=λ σ K=>f.run σ λ fv aI=>Zn fv λ g=>as.run aI λ vs aW=>WC P g vs aW.mem λ v m'=>K v ⟨aW.loc,m'⟩
 ch:=isNm f.bA&&(f.ch&&as.ch)
 star:=λ aa aa=>rfl
 ok:=λ c F G ρ σ s Kv O R h=>zX f as (wX (aF c).1) (aF (aF c).2).1 (aF (aF c).2).2 O R h λ g dx vs jr g8 aW bp le x gP q9 cW=>X.mono (WC.take O gP q9 cW) λ aa aa=>PE.up le x
 ab:=λ s=>bO (f.ab s) λ t s=>ob (tFn t) λ g=>bO (as.ab s) λ vs s=>ob (P.cB g.1 vs s.mem) λ outs=>af (Vx s outs)
 cO:=λ fo s outs h σ gs=>(f.cO fo).bind h gs λ t s l h a σ ga gs=>ob.u h λ g aa h=>(lC ga g.2).symm▸(as.cO fo).bind h gs λ ts s l h vs σ UJ gs=>ob.u h λ outs e h=>am h▸(fo _ _ _ _ e _ _ UJ gs.mem).d2 gs
theorem mG.make{A:bn}{d:Nat}{C:au}{vs:ae ak}(h:mG A d)(hd:1<=d):mG (A.under (.builtin "type.__call__" ⟨.ref C::vs,[]⟩)) (d - 1):=by
 rcases d with _|d
 ·exact bt hd (jg 0)
 ·exact⟨room_in (e:=1) h.1 (by decide),room_in (e:=1) h.2.1 (by decide),h.2.2⟩
noncomputable def Go:(outs:ae (TV×ae TO))->aq {u:e6 // ∀o∈outs,o.1= .ex .none}
 |[]=>af ⟨(),λ aa h=>nomatch h⟩
 |o::r=>ob (Ti o.1) λ e=>ob (Go r) λ k=>af ⟨(),aJ.mpr ⟨e.2,k.2⟩⟩
theorem x5.of{K:eJ}{C fi:au}(h:x5 K C fi=true):makesIn K C=true/\findIn K (.ref C) "__init__"=af (af (.ref fi))/\typeIn K (.ref fi)=af (.type "function")/\keepIn K (.ref C)=true:=
 have a:=aF h
 have b:=aF a.1
 have c:=aF b.1
 ⟨c.1,a_.mp c.2,a_.mp b.2,a.2⟩
theorem Kz{α:Type}{l:ae α}{x:α}{n:Nat}(e:l.length=n):(l++[x])[n]?=af x:=e▸xS
theorem RF.make{F:Fd}{aS:ae bI}{G:BM}{ρ:ae au}{σ:St}{s:ar}(R:RF F aS G ρ σ s)(C:au):∃ρ',Ext ρ ρ'/\VR G ρ' (.own (σ.mem.length+1)) (.ref (s.heap.objs.size+1))/\
  RF F aS G ρ' ⟨σ.loc,σ.mem++[.ns [] [], .inst C σ.mem.length]⟩ {s with heap:=(s.heap.push qO).push (gE C s.heap.objs.size)}:=
 have lI:=R.new (ao:= .ns [] []) (s':={s with heap:=s.heap.push qO}) R.K0 (aN _ rfl) ⟨[],_,[],rfl,⟨rfl,rfl⟩,bJ.nil⟩ (λ b o e=>aA _ e) ⟨rfl,rfl,rfl⟩
 have e:ρ.length=σ.mem.length:=R.rm.len
 have pW:=lI.new (ao:= .inst C σ.mem.length) (s':={s with heap:=(s.heap.push qO).push (gE C s.heap.objs.size)}) lI.K0 (aN _ rfl) ⟨s.heap.objs.size,Ext.get (Ext.snoc _ _) (Kz e),rfl⟩ (λ b o e=>aA _ e) ⟨rfl,rfl,rfl⟩
 ⟨_,(Ext.snoc _ _).trans (Ext.snoc _ _),VR.Jf ((Kz (bj.trans (ah (·+1) e))).trans (ah af (Heap.size_push _ _))),(gT σ.mem [.ns [] []] [.inst C σ.mem.length])▸pW⟩
def adX(C:au)(f:SE P ct)(as:SL P ct)(p:c9):SE P ct where
 bA:= .Call f.bA as.bA [] p
 run:=λ σ K=>f.run σ λ fv aI=>fv= .val (.ref C)/\as.run aI λ vs aW=>sV (P.init C) λ fi=>WC P.dn fi (.own (aW.mem.length+1)::vs) (aW.mem++[.ns [] [], .inst C aW.mem.length]) λ v m'=>v= .none/\K (.own (aW.mem.length+1)) ⟨aW.loc,m'⟩
 ch:=isNm f.bA&&(bB 1 P.d&&(f.ch&&as.ch))
 star:=λ aa aa=>rfl
 ok:=λ c F G ρ σ s Kv O R h=>have hf:=wX (aF c).1; have c:=(aF c).2; have ca:=aF (aF c).2
  Hm f as hf ca.1 ca.2 O R h λ dW c8 a aI u s₁ fQ fu dS va bH=>by
   cases bH.1
   cases eH va
   refine X.uo (Pm:=λ h=>x5 P.K C ((P.init C).getD 0)=true/\P.K.In h) (as.plain _ _) (λ h z=>keeps_K (x5.of z.1).2.2.2 _ z.2) (X.mono (as.ok ca.2 F dW c8 aI s₁ _ _ O dS bH.2) λ vs bp z=>z.u λ jr g8 dx aW jk jw gP q9 cW=>cW.u λ fi hfi cW=>?_)
   have mk:=P.E4 C fi hfi
   have hK:=gP.K O
   exact⟨⟨hfi.symm▸mk,hK⟩,X.calls (X.make (makes_of hK (x5.of mk).1) (looks_findIn hK (x5.of mk).2.1) (λ self=>bind_fn hK self (x5.of mk).2.2.1) rfl ((gP.make C).elim λ ρ' y=>
    X.eu (cW.run _ jr _ _ _ (O.room.make (aQ (aF c).1)) (gP.ja (P:=P) O) y.2.2.rm (bJ.cons y.2.1 (bJ.up (dG.refl _) y.1 _ q9))) λ r s' z=>z.u (Q:=λ r s'=>match r with | .ok (.ret v)=>v= .none/\PE F ct.aS G ρ Kv (.ref (bp.heap.objs.size+1)) s'|_=>False) λ v z=>(z.pe (Kv:=λ v σ=>v= .none/\Kv (.own (aW.mem.length+1)) σ) y.2.2).u λ G' lg av b8 g x R' vv q=>
     ⟨(q.1▸vv:VR G' lg .none v).of_none,G',lg,_,b8,fQ.trans (jk.trans g),fu.trans (jw.trans (y.1.trans x)),R',y.2.1.up g x,q.2⟩))⟩
 ab:=λ s=>bO (f.ab s) λ t s=>ob (adx t) λ c=>bE (aT c.1 C) λ aa=>bO (as.ab s) λ vs s=>ob (P.init C) λ fi=>ob (P.cB fi (.ex (.own (s.mem.length+1))::vs) (s.mem++[.ns [] []]++[.inst C s.mem.length])) λ outs=>
  ob (Go outs) λ aa=>af (outs.map λ o=>(.ex (.own (s.mem.length+1)),⟨s.loc,o.2⟩))
 cO:=λ fo s outs h σ gs=>(f.cO fo).bind h gs λ t s l h a σ ga gs=>ob.u h λ c aa h=>bE.u h λ hc h=>D2.eq ((as.cO fo).bind (C:=λ vs aW K=>sV (P.init C) λ fi=>WC P.dn fi (.own (aW.mem.length+1)::vs) (aW.mem++[.ns [] [], .inst C aW.mem.length]) λ v m'=>v= .none/\K (.own (aW.mem.length+1)) ⟨aW.loc,m'⟩)
   h gs λ ts s l h vs σ UJ gs=>ob.u h λ fi e1 h=>ob.u h λ outs e h=>ob.u h λ an aa h=>am h▸
   have hl:s.mem.length=σ.mem.length:=gs.mem.len
   have gm:=(gs.mem.app (o:= .ns [] []) (o':= .ns [] []) ⟨[],rfl,rfl⟩ rfl).app (o:= .inst C s.mem.length) (o':= .inst C σ.mem.length) (ah (AO.inst C) hl.symm) rfl
   have gw:AV.own (σ.mem.length+1)= .own (s.mem.length+1):=ah (λ n=>AV.own (n+1)) hl.symm
   (fo _ _ _ _ e (.own (σ.mem.length+1)::vs) _ (dH.cons gw UJ) gm).elim λ v w=>w.elim λ m' w=>w.1.elim λ o q=>⟨.own (σ.mem.length+1),⟨σ.loc,m'⟩,⟨_,dN.mpr ⟨o,q.1,rfl⟩,gw,gs.loc,q.2.2⟩,
    λ K k=>qF e1 ((gT σ.mem [.ns [] []] [.inst C σ.mem.length]▸w.2).mono λ a m z=>⟨z.1.trans (an.2 o q.1▸q.2.1:GV (.ex .none) v),z.2▸k⟩)⟩) λ K k=>⟨(lC ga c.2).trans (ah (λ c=>AV.val (.ref c)) (aL hc)),k⟩
def Ja(P:cC)(C:au)(ks:ae Nat)(x:Nat)(K:au->Prop):Prop:=sV (P.tV C x) λ g=>aY (wL ks x) False (K g)
def onM(P:cC)(a:AV)(x:Nat)(mem:ae AO)(K:au->Prop):Prop:=match a with
 | .own p=>Df mem p λ C aa ks aa=>Ja P C ks x K
 | .inst C ks _=>Ja P C ks x K
 |_=>False
theorem Ja.u{C:au}{ks:ae Nat}{x:Nat}{K:au->Prop}{Q:Prop}(h:Ja P C ks x K)(k:∀g,nM P.K C (nm x) g=true->x < NM->wL ks x=false->K g->Q):Q:=sV.u h λ g e h=>by
 have m:=P.Fk _ _ _ e
 cases q:wL ks x with
 |true=>rw[q] at h; exact h.elim
 |false=>rw[q] at h; exact k g m.2 m.1 q h
theorem AG{C:au}{ks:ae Nat}{x:Nat}{K:au->Prop}{g:au}(e:P.tV C x=af g)(hk:(!wL ks x)=true)(k:K g):Ja P C ks x K:=qF e ((ah (aY · False (K g)) (nb hk)).mpr k)
theorem tP{x:Nat}(hx:x < NM):∀{ks:ae Nat} {es:ae bf} {us:ae ak},wL ks x=false->uj ks es us->getL (nm x) es=af none
 |[],es,us=>λ aa h=>h.u0 (Q:=λ es aa=>getL (nm x) es=af none) rfl
 |k::ks,es,us=>λ h hk=>hk.uc (Q:=λ es aa=>getL (nm x) es=af none) λ hh t u es us kn hk=>by
  have q:k≠x:=λ e=>ay ((ah (aY · true (wL ks x)) (e▸uS k:aT k x=true)).symm.trans h)
  exact(y1 ((Fp kn hx).trans (ed.mpr q))).trans (tP hx ((ah (aY · true (wL ks x)) (TP q)).symm.trans h) hk)
theorem nM.of{K:eJ}{C g:au}{x:bI}(h:nM K C x g=true):plainGet K C x=true/\findIn K (.ref C) x=af (af (.ref g))/\typeIn K (.ref g)=af (.type "function")/\fnIn K g=true:=
 have a:=aF h
 have b:=aF a.1
 have c:=aF b.1
 ⟨c.1,a_.mp c.2,a_.mp b.2,a.2⟩
theorem wV{A:bn}{s:ar}{K:eJ}{C x d g:au}{prog:aK}{w:bw}{es:ae bf}{n:Nat}{name:bI}{pl:im aC}{Q:ak×ae ak->ar->Prop}(X:K.In s.heap)(ok:nM K C name g=true)
  (hx:s.heap.get? x=af (gE C d)) (hd:s.heap.get? d=af (nH es n)) (hl:getL name es=af none) (h:Q (.ref g,[.ref x]) s):aH (aE prog w) A (fJ (.ref x) name pl) Q dw s:=
 have m:=nM.of ok
 method_fn X (⟨hx,rfl,rfl,hd⟩:InstAt s.heap x (gE C d) C (af (nH es n))) (plainGet_of m.1).1 (plainGet_of m.1).2 m.2.1 m.2.2.1 (ah (ef λ v:aq ak=>v.isSome) ((lookIn_dict ..).trans hl)) h
theorem VR.YA{G:BM}{ρ:ae au}{C:au}{ks:ae Nat}{vs:ae AV}{v:ak}{Q:ak->Prop}(h:VR G ρ (.inst C ks vs) v)(k:∀a d es n us,G a=af (gE C d)->G d=af (nH es n)->uj ks es us->bJ G ρ vs us->Q (.ref a)):Q v:=
 aD h λ a h=>h.elim λ d h=>h.elim λ es h=>h.elim λ n h=>h.elim λ us h=>h.1▸k a d es n us h.2.1 h.2.2.1 h.2.2.2.1 h.2.2.2.2
theorem I_{F:Fd}{G:BM}{ρ:ae au}{σ:St}{s:ar}{a:AV}{u:ak}{x:Nat}{K:au->Prop}{pl:im aC}{Q:ak×ae ak->ar->Prop}(O:gO P ct F)(R:RF F ct.aS G ρ σ s)(va:VR G ρ a u)(h:onM P a x σ.mem K)
  (hq:∀g,fnIn P.K g=true->K g->Q (.ref g,[u]) s):aH (aE P.prog P.w) F.A (fJ u (nm x) pl) Q dw s:=by
 rcases a with _|_|_|_|_|p|_|_|_|_|_|_|_|⟨C,ks,vs⟩|_|_|_|_
 case own=>exact Df.u h λ C j ks vs e1 e2 h=>h.u λ g ok xl hk h=>R.UR va e1 e2 (Q:=λ u=>(∀g,fnIn P.K g=true->K g->Q (.ref g,[u]) s)->aH (aE P.prog P.w) F.A (fJ u (nm x) pl) Q dw s) (λ a d es n us h1 aa h3 h4 aa hq=>wV (R.K O) ok h1 h3 (tP xl hk h4) (hq g (nM.of ok).2.2.2 h)) hq
 case inst=>exact Ja.u h λ g ok xl hk h=>va.YA (Q:=λ u=>(∀g,fnIn P.K g=true->K g->Q (.ref g,[u]) s)->aH (aE P.prog P.w) F.A (fJ u (nm x) pl) Q dw s) (λ a d es n us h1 h3 h4 aa hq=>wV (R.K O) ok (R.rm.kg _ _ h1) (R.rm.kg _ _ h3) (tP xl hk h4) (hq g (nM.of ok).2.2.2 h)) hq
 all_goals exact h.elim
noncomputable def tGr(t:TV):aq {R:ae (ae (ae (ae Int))) // t= .gr R}:=match t with
 | .gr R=>af ⟨R,rfl⟩
 |_=>none
def aM(P:cC)(t:TV)(x:Nat)(s:AS):aq {g:au // ∀a σ,GV t a->GS s σ->∀K:au->Prop,K g->onM P a x σ.mem K}:=
 oe (ob (nU t) λ p=>jS (gW s.mem p.1) λ o ho=>ob (Hp o) λ c=>jS (gW s.mem c.1.2) λ o2 h2=>ob (oKs o2) λ kv=>jS (P.tV c.1.1 x) λ g hg=>bE (!wL kv.1 x) λ hk=>af ⟨g,λ a σ ga gs K k=>
  (gs.at ho c.2).elim λ aa z=>(gs.mem.get _ _ h2).elim λ o' z2=>(kv.2 _ _ z2.2).elim λ us e=>(lC ga p.2).symm▸AE (z.1.trans (ah af z.2)) (z2.1.trans (ah af e)) (AG hg hk k)⟩)
 (oe (ob (tGr t) λ R=>jS (P.tV 812 x) λ g hg=>bE (!wL [28,29] x) λ hk=>af ⟨g,λ a σ ga gs K k=>aD (R.2▸ga:GV (.gr R.1) a) λ ps e=>e.1.symm▸AG hg hk k⟩)
 (ob (Tg t) λ c=>jS (P.tV c.1.1 x) λ g hg=>bE (!wL c.1.2.1 x) λ hk=>af ⟨g,λ a σ ga gs K k=>(lC ga c.2).symm▸AG hg hk k⟩))
theorem fnOf{x:aq Obj}(h:(match x with|some ⟨_,_, .func _,_⟩=>true|_=>false)=true):∃o fd,x=af o/\o.data= .func fd:=by
 rcases x with _|⟨c,d,dt,sl⟩
 ·exact ay h
 ·cases dt
  case func fd=>exact⟨_,fd,rfl,rfl⟩
  all_goals exact ay h
theorem PO{K:eJ}{g:au}(h:fnIn K g=true):∃o fd,K.lookup g=af o/\o.data= .func fd:=fnOf h
def DU(o:SE P ct)(x:Nat)(ap:c9)(as:SL P ct)(p:c9):SE P ct where
 bA:= .Call (.Attribute o.bA (nm x) ap) as.bA [] p
 run:=λ σ K=>o.run σ λ a aI=>onM P a x aI.mem λ g=>as.run aI λ vs aW=>WC P g (a::vs) aW.mem λ v m'=>K v ⟨aW.loc,m'⟩
 ch:=mtB o.bA as.bA ap p&&(o.ch&&as.ch)
 star:=λ aa aa=>rfl
 ok:=λ c F G ρ σ s Kv O R h=>have d:=(aF c).1; have c:=(aF c).2; (Hk d (nm x) F.env (as.plain _ _)).elim λ pl he=>X.B4 he (X.mono (o.ok (aF c).1 F G ρ σ s _ O R h) λ u s₁ z=>z.u λ dW c8 a aI fQ fu dS va bH=>X.any (I_ O dS va bH λ g hg cW=>
  X.uo (Pm:=λ h=>∃o fd,h.get? g=af o/\o.data= .func fd) (as.plain _ _) Aq (X.mono (as.ok (aF c).2 F dW c8 aI s₁ _ _ O dS cW) λ vs bp z=>z.u λ jr g8 dx aW jk jw gP q9 fK=>⟨(PO hg).imp λ aa=> .imp λ aa=> .imp_left ((gP.K O) _ _),X.mono (WC.take O gP (bJ.cons (va.up jk jw) q9) fK) λ aa aa=>PE.up (fQ.trans jk) (fu.trans jw)⟩)))
 ab:=λ s=>bO (o.ab s) λ t s=>ob (aM P t x s) λ g=>bO (as.ab s) λ vs s=>ob (P.cB g.1 (t::vs) s.mem) λ outs=>af (Vx s outs)
 cO:=λ fo s outs h σ gs=>(o.cO fo).bind h gs λ t s l h a σ ga gs=>ob.u h λ g aa h=>D2.eq ((as.cO fo).bind (C:=λ vs aW K=>WC P g.1 (a::vs) aW.mem λ v m'=>K v ⟨aW.loc,m'⟩) h gs λ ts s l h vs σ UJ gs=>ob.u h λ outs e h=>am h▸(fo _ _ _ _ e _ _ (dH.cons ga UJ) gs.mem).d2 gs) λ K k=>g.2 a σ ga gs _ k
end
section
variable{P:cC}{ct:Ct}
theorem RF.side{F:Fd}{aS:ae bI}{G:BM}{ρ:ae au}{σ:St}{s s':ar}{I:au}(R:RF F aS G ρ σ s)(k:∀a o,a≠I->s.heap.get? a=af o->s'.heap.get? a=af o)
  (n1:I∉ρ) (n2:G I=none) (n3:F.h₀.get? I=none) (n4:I≠F.env.locals) (n5:∀x,F.env.cells.lookup x≠af I) (z:s'.gens=s.gens/\s'.gens=s.gens/\s'.os=s.os):RF F aS G ρ σ s':=by
 obtain⟨mL,oL,esL,epL,JY,rL⟩:=R.ns
 have kL:∀o,s.heap.get? F.env.locals=af o->s'.heap.get? F.env.locals=af o:=λ o e=>k _ o (Ne.symm n4) e
 have kc:∀y c o,F.env.cells.lookup y=af c->s.heap.get? c=af o->s'.heap.get? c=af o:=λ y c o e q=>k c o (λ h=>n5 y (h▸e)) q
 refine⟨R.rm.HQ λ a o q e=>k a o (λ h=>?_) e,⟨mL,oL,esL,epL,kL _ JY,rL⟩,λ i x' v e e' n=>?_,R.lG,R.Bq,λ x' c e=>?_,R.p9,λ a o n f e=>k a o (λ h=>?_) (R.keep a o n f e),λ a o e=>?_,R.ext,R.nw,R.Cy,R.Bp,R.gz.trans (GZ.of z)⟩
 ·subst h
  rcases q with q|q
  ·exact n1 q
  ·rw[n2] at q; cases q
 ·obtain⟨u,q,a⟩:=R.loc i x' v e e' n
  exact⟨u,q,a.keeps kL kc⟩
 ·obtain⟨a,b,⟨v,o,ho,hd⟩,f⟩:=R.cell x' c e
  exact⟨a,b,⟨v,o,kc x' c o e ho,hd⟩,f⟩
 ·subst h; rw[n3] at e; cases e
 ·obtain⟨o',e'⟩:=R.live a o e
  by_cases h:a=I
  ·subst h; rw[n3] at e; cases e
  ·exact⟨o',k a o' h e'⟩
structure Loose(F:Fd)(G:BM)(ρ:ae au)(s:ar)(I:au):Prop where
 ρ:I∉ρ
 G:G I=none
 h:F.h₀.get? I=none
 L:I≠F.env.locals
 c:∀x,F.env.cells.lookup x≠af I
 al:∃o,s.heap.get? I=af o
theorem RF.Nw{F:Fd}{aS:ae bI}{G:BM}{ρ:ae au}{σ:St}{s s':ar}{I:au}(R:RF F aS G ρ σ s)(Lo:Loose F G ρ s I)(k:∀a o,a≠I->s.heap.get? a=af o->s'.heap.get? a=af o)(al:∃o,s'.heap.get? I=af o)
  (z:s'.gens=s.gens/\s'.gens=s.gens/\s'.os=s.os):RF F aS G ρ σ s'/\Loose F G ρ s' I:=
 ⟨R.side k Lo.ρ Lo.G Lo.h Lo.L Lo.c z,Lo.ρ,Lo.G,Lo.h,Lo.L,Lo.c,al⟩
theorem RF.XT{F:Fd}{aS:ae bI}{G:BM}{ρ:ae au}{σ:St}{s:ar}(R:RF F aS G ρ σ s){a:au}(q:s.heap.get? a=none):F.h₀.get? a=none:=by
 cases e:F.h₀.get? a with
 |none=>rfl
 |some o=>obtain⟨o',e'⟩:=R.live a o e; rw[q] at e'; cases e'
theorem RF.loose{F:Fd}{aS:ae bI}{G:BM}{ρ:ae au}{σ:St}{s s':ar}{I:au}(R:RF F aS G ρ σ s)(hI:s.heap.get? I=none)(al:∃o,s'.heap.get? I=af o):Loose F G ρ s' I:=by
 refine⟨λ hm=>?_,?_,R.XT hI,λ h=>?_,λ x h=>?_,al⟩
 ·obtain⟨o,ho⟩:=R.rm.some_of hm; rw[hI] at ho; cases ho
 ·cases e:G I with
  |none=>rfl
  |some o=>have:=R.rm.kg I o e; rw[hI] at this; cases this
 ·obtain⟨m,o,es,ep,ho,_⟩:=R.ns; subst h; rw[hI] at ho; cases ho
 ·obtain⟨_,_,⟨v,o,ho,_⟩,_⟩:=R.cell x I h; rw[hI] at ho; cases ho
theorem RF.over{F:Fd}{G G':BM}{ρ ρ':ae au}{σ b8:St}{s s':ar}{I:au}(R:RF F ct.aS G ρ σ s)(Lo:Loose F G ρ s I)(R':RF (F.now G ρ s) ct.aS G' ρ' b8 s'):
  RF F ct.aS G' ρ' b8 s'/\Loose F G' ρ' s' I/\∀o,s.heap.get? I=af o->s'.heap.get? I=af o:=by
 obtain⟨o,ho⟩:=Lo.al
 have kp:∀o,s.heap.get? I=af o->s'.heap.get? I=af o:=λ o e=>R'.keep I o Lo.ρ ⟨Lo.L,λ aa x aa=>Lo.c x⟩ e
 refine⟨R.then R',⟨λ hm=>?_,?_,Lo.h,Lo.L,Lo.c,_,kp o ho⟩,kp⟩
 ·rcases R'.nw I hm with q|q
  ·exact Lo.ρ q
  ·rw[show(F.now G ρ s).h₀=s.heap from rfl,ho] at q; cases q
 ·cases e:G' I with
  |none=>rfl
  |some o'=>
   rcases R'.Bp I o' e with q|q
   ·have:G I=af o':=q; rw[Lo.G] at this; cases this
   ·rw[show(F.now G ρ s).h₀=s.heap from rfl,ho] at q; cases q
abbrev yB(set:AV->St->(St->Prop)->Prop)(t:TV)(s s':AS):Prop:=∀v σ,GV t v->GS s σ->∃b8,GS s' b8/\∀K:St->Prop,K b8->set v σ K
structure TG(P:cC)(ct:Ct) where
 bA:aB
 set:AV->St->(St->Prop)->Prop
 ch:aC
 ok:ch=true->∀F G ρ σ s v u K,gO P ct F->RF F ct.aS G ρ σ s->VR G ρ v u->set v σ K->aH (aE P.prog P.w) F.A (assign bA F.env u) (λ aa s'=>∃b8,RF F ct.aS G ρ b8 s'/\K b8) dw s
 lD:aC
 go:∀(A:bn) (s:ar) (I:au) (u:ak) (Q:e6->ar->Prop),(lD=true\/∃l k,s.heap.IsListIter I l k)->Q () s->aH (aE P.prog P.w) A (dy bA (.ref I) u) Q dw s
 st:(t:TV)->(s:AS)->aq {s':AS // yB set t s s'}:=λ aa aa=>none
theorem qL{F:Fd}{G:BM}{ρ:ae au}{σ:St}{s:ar}{i:Nat}{x:bI}{av:AV}{u:ak}{Q:e6->ar->Prop}(O:gO P ct F)(R:RF F ct.aS G ρ σ s)(c:pd ct i x=true)(va:VR G ρ av u)
  (h:∀s',RF F ct.aS G ρ ⟨setAt σ.loc i av,σ.mem⟩ s'->Q () s'):aH (aE P.prog P.w) F.A (ug F.env x u) Q dw s:=
 X.back (t5 (P:={P with j:=false}) ⟨O.kind,O.names,O.glob,O.blt,O.room,O.ja,O.vH,O.ro,O.cells,O.tb,O.cq⟩ R c va h)
def xy(i:Nat)(p:c9):TG P ct where
 bA:= .Name (Hn ct i) p
 set:=λ v σ K=>K (σ.set i v)
 ch:=pd ct i (Hn ct i)
 ok:=λ c F G ρ σ s v u K O R va h=>xW (qL O R c va λ s' R'=>⟨_,R',h⟩)
 lD:=true
 go:=λ aa aa aa aa aa aa q=>aw q
 st:=λ t s=>af ⟨s.set i t,λ v σ g gs=>⟨σ.set i v,⟨gs.loc.set i g,gs.mem⟩,λ K k=>k⟩⟩
noncomputable abbrev hO:=Nat×bI×c9
noncomputable def qk:ae hO->ae AV->St->(St->Prop)->Prop
 |[],[],σ,K=>K σ
 |n::r,v::vs,σ,K=>qk r vs (σ.set n.1 v) K
 |_,_,_,_=>False
noncomputable def bX:ae Int->ae AV
 |i::r=> .int i::bX r
 |[]=>[]
theorem oX{G:BM}{ρ:ae au}:∀{ns:ae Int} {vs:ae ak},cx ns vs->bJ G ρ (bX ns) vs
 |[],_=>id
 |i::r,_=>λ h=>h.uc (Q:=λ vs=>bJ G ρ (bX (i::r)) vs) λ t vs h=> .cons VR.mH (oX h)
def AN(ns:ae hO)(v:AV)(σ:St)(K:St->Prop):Prop:=match v with
 | .tup xs=>qk ns xs σ K
 | .lq xs=>qk ns (bX xs) σ K
 |_=>False
noncomputable def jF(ct:Ct):ae hO->aC
 |[]=>true
 |n::r=>pd ct n.1 n.2.1&&jF ct r
theorem xm{K:St->Prop}:∀{ns:ae hO} {vs:ae AV} {σ:St},qk ns vs σ K->ns.length=vs.length
 |[],[],_,_=>rfl
 |[],_::_,_,h=>h.elim
 |_::_,[],_,h=>h.elim
 |n::r,v::vs,σ,h=>ah (·+1) (xm (ns:=r) h)
noncomputable def names3(ns:ae hO):ae aB:=ns.map λ n=> .Name n.2.1 n.2.2
theorem sB{F:Fd}{G:BM}{ρ:ae au}{K:St->Prop}(O:gO P ct F):∀(ns:ae hO) (dx:ae AV) (us:ae ak) (σ:St) (s:ar),jF ct ns=true->RF F ct.aS G ρ σ s->bJ G ρ dx us->qk ns dx σ K->
  aH (aE P.prog P.w) F.A (gG ((jI (names3 ns) F.env).map (·.2)) us) (λ aa s'=>∃b8,RF F ct.aS G ρ b8 s'/\K b8) dw s
 |[],[],us,σ,s,c,R,va,h=>va.u0 (Q:=λ us=>aH (aE P.prog P.w) F.A (gG [] us) (λ aa s'=>∃b8,RF F ct.aS G ρ b8 s'/\K b8) dw s) (aw ⟨σ,R,h⟩)
 |[],_::_,_,_,_,_,_,_,h=>h.elim
 |_::_,[],_,_,_,_,_,_,h=>h.elim
 |n::r,v::vs,us,σ,s,c,R,va,h=>va.uc (Q:=λ us=>aH (aE P.prog P.w) F.A (gG ((jI (names3 (n::r)) F.env).map (·.2)) us) (λ aa s'=>∃b8,RF F ct.aS G ρ b8 s'/\K b8) dw s) λ u ur vu vr=>
  aj (bU (xW (qL O R (aF c).1 vu λ s' R'=>sB O r vs ur _ s' (aF c).2 R' vr h)))
theorem qf(env:Env):∀ns:ae hO,(jI (names3 ns) env).length=ns.length/\(jI (names3 ns) env).findIdx? (·.1)=none
 |[]=>⟨rfl,rfl⟩
 |n::r=>have h:=qf env r
  ⟨ah (·+1) h.1,(List.findIdx?_cons ..).trans (ah (ef (·+1)) h.2)⟩
theorem zA{F:Fd}{G:BM}{ρ:ae au}{σ:St}{s:ar}{ns:ae hO}{K:St->Prop}(O:gO P ct F)(R:RF F ct.aS G ρ σ s)(c:jF ct ns=true){a:au}{o:Obj}{vs:bD ak}{dx:ae AV}(g:G a=af o)(t:pG o vs)(vr:bJ G ρ dx vs.toList)(h:qk ns dx σ K):
  aH (aE P.prog P.w) F.A (unpack (.ref a) (jI (names3 ns) F.env)) (λ aa s'=>∃b8,RF F ct.aS G ρ b8 s'/\K b8) dw s:=by
 unfold unpack
 rw[(qf F.env ns).1,(qf F.env ns).2,(xm h).trans (vr.length.symm.trans bh)]
 exact aj (bU (unpackItems_tuple O.room.2.2 ⟨o,R.rm.kg _ _ g,t.1,t.2⟩ λ h' e=>sB O ns dx vs.toList σ _ c (R.grow (s':={s with heap:=h'}) (λ b o' q=>e b o' (dO (b9 q)) q) ⟨rfl,rfl,rfl⟩) vr h))
theorem AN.u{ns:ae hO}{v:AV}{σ:St}{K:St->Prop}{Q:AV->Prop}(h:AN ns v σ K)(k1:∀xs,qk ns xs σ K->Q (.tup xs))(k2:∀xs,qk ns (bX xs) σ K->Q (.lq xs)):Q v:=by
 rcases v with _|_|_|_|_|_|_|_|xs|_|xs|_|_|_|_|_|_|_
 case lq=>exact k2 xs h
 case tup=>exact k1 xs h
 all_goals exact h.elim
theorem th{F:Fd}{G:BM}{ρ:ae au}{σ:St}{s:ar}{ns:ae hO}{v:AV}{u:ak}{K:St->Prop}(O:gO P ct F)(R:RF F ct.aS G ρ σ s)(c:jF ct ns=true)(va:VR G ρ v u)(h:AN ns v σ K):
  aH (aE P.prog P.w) F.A (unpack u (jI (names3 ns) F.env)) (λ aa s'=>∃b8,RF F ct.aS G ρ b8 s'/\K b8) dw s:=
 AN.u (Q:=λ v=>VR G ρ v u->aH (aE P.prog P.w) F.A (unpack u (jI (names3 ns) F.env)) (λ aa s'=>∃b8,RF F ct.aS G ρ b8 s'/\K b8) dw s) h
  (λ xs h va=>va.Jy (Q:=λ u=>aH (aE P.prog P.w) F.A (unpack u (jI (names3 ns) F.env)) (λ aa s'=>∃b8,RF F ct.aS G ρ b8 s'/\K b8) dw s) λ a o vs g t r=>zA O R c g t r h)
  (λ xs h va=>aD va λ a z=>z.elim λ o z=>z.elim λ vs z=>z.1▸zA O R c z.2.1 z.2.2.1 (oX z.2.2.2) h) va
noncomputable def Gk:ae hO->ae TV->AS->aq AS
 |[],[],s=>af s
 |n::r,t::ts,s=>Gk r ts (s.set n.1 t)
 |_,_,_=>none
theorem we:∀{ns:ae hO} {ts:ae TV} {s s':AS} {vs:ae AV} {σ:St},Gk ns ts s=af s'->dH ts vs->GS s σ->∃b8,GS s' b8/\∀K:St->Prop,K b8->qk ns vs σ K
 |[],[],s,s',vs,σ,h,g,gs=>g.u0 (Q:=λ vs=>∃b8,GS s' b8/\∀K:St->Prop,K b8->qk [] vs σ K) ⟨σ,am h▸gs,λ K k=>k⟩
 |[],_::_,_,_,_,_,h,_,_=>cm h
 |_::_,[],_,_,_,_,h,_,_=>cm h
 |n::r,t::ts,s,s',vs,σ,h,g,gs=>g.uc (Q:=λ vs=>∃b8,GS s' b8/\∀K:St->Prop,K b8->qk (n::r) vs σ K) λ v vs g g2=>we (ns:=r) (ts:=ts) (s:=s.set n.1 t) (σ:=σ.set n.1 v) h g2 ⟨gs.loc.set n.1 g,gs.mem⟩
abbrev abq(ts:ae TV)(v:AV):Prop:=∃vs,dH ts vs/\∀ns σ K,qk ns vs σ K->AN ns v σ K
def tUp(t:TV):aq {ts:ae TV // ∀v,GV t v->abq ts v}:=match t with
 | .tp a b=>af ⟨[a,b],λ v g=>aD g λ x g=>g.elim λ y g=>g.1▸⟨[x,y], .cons g.2.1 (.cons g.2.2 rfl),λ aa aa aa k=>k⟩⟩
 | .ex (.tup xs)=>af ⟨yW xs,λ v g=>(show v=_ from g)▸⟨xs,lr xs,λ aa aa aa k=>k⟩⟩
 | .ex (.lq xs)=>af ⟨yW (bX xs),λ v g=>(show v=_ from g)▸⟨_,lr _,λ aa aa aa k=>k⟩⟩
 |_=>none
def R8(ns:ae hO)(t:TV)(s:AS):aq {s':AS // yB (AN ns) t s s'}:=ob (tUp t) λ ts=>jS (Gk ns ts.1 s) λ s' h=>af ⟨s',λ v σ g gs=>
 (ts.2 v g).elim λ vs z=>(we h z.1 gs).imp λ b8 y=>⟨y.1,λ K w=>z.2 _ _ _ (y.2 K w)⟩⟩
theorem UH{prog:aK}{w:bw}{A:bn}{s:ar}{I:au}{u:ak}{es:ae aB}{k:Nat}{p:c9}{Q:e6->ar->Prop}(hit:∃l k,s.heap.IsListIter I l k)(q:Q () s):aH (aE prog w) A (dy (.Tuple es k p) (.ref I) u) Q dw s:=by
 obtain⟨l,k,hit⟩:=hit
 cases u with
 |ref T=>exact wpAny_letOwnedTupleGo_listiter hit q
 |_=>exact aw q
def NO(ns:ae hO)(k:Nat)(p:c9):TG P ct where
 bA:= .Tuple (names3 ns) k p
 set:=AN ns
 ch:=jF ct ns
 ok:=λ c F G ρ σ s v u K O R va h=>aj (h_ (th O R c va h))
 lD:=false
 go:=λ A s I u Q hit q=>UH (hit.resolve_left aX) q
 st:=R8 ns
theorem V9{ns vs:ae aB}{tp vp:c9}{k kv:Nat}{env:Env}(hf:vs.all (mX 8)=true):i_ [.Tuple ns k tp] (.Tuple vs kv vp) env=pure none:=by
 unfold i_
 dsimp only
 split
 ·rfl
 ·split
  ·rfl
  ·split
   ·rfl
   ·rfl
noncomputable def YE(e:aB):aC:=match e with
 | .Attribute .. =>true
 | .Call .. =>true
 | .Subscript .. =>true
 | .Name .. =>true
 | .Tuple vs _ _=>vs.all (mX 8)
 |_=>false
theorem aac{e:aB}(h:YE e=true):vG 2 e=true/\∀ns k tp env,i_ [.Tuple ns k tp] e env=pure none:=by
 cases e
 case Attribute=>exact⟨rfl,λ aa aa aa aa=>rfl⟩
 case Call=>exact⟨rfl,λ aa aa aa aa=>rfl⟩
 case Subscript=>exact⟨rfl,λ aa aa aa aa=>rfl⟩
 case Name=>exact⟨rfl,λ aa aa aa aa=>rfl⟩
 case Tuple=>exact⟨rfl,λ aa aa aa aa=>V9 h⟩
 all_goals exact ay h
def adn(ns:ae hO)(k:Nat)(tp:c9)(e:SE P ct)(p:c9):SX P ct where
 bA:= .Assign [.Tuple (names3 ns) k tp] e.bA p
 run:=λ σ K=>e.run σ λ v aI=>AN ns v aI λ aW=>K .d8 aW
 ch:=YE e.bA&&(jF ct ns&&e.ch)
 ok:=λ c F G ρ σ s Kv O R h=>have d:=aac (aF c).1; have c:=(aF c).2; X.xZ (by unfold Ik; exact HT d.1) (d.2 _ _ _ _) (X.mono (e.ok (aF c).2 F G ρ σ s _ O R h) λ v s₁ z=>z.u λ G' ρ' a b8 g x R' va kk=>X.any (show aH _ _ (do dp tp; unpack v (jI (names3 ns) F.env)) _ _ _ from
  aj (h_ (c7 (th O R' (aF c).1 va kk) (λ aa s' y=>y.elim λ JA y=>PF.d8 g x y.1 y.2) λ aa aa z=>z))))
 ab:=Kt e.ab λ t s=>ob (R8 ns t s) λ s'=>af [(.d8,s'.1)]
 cO:=λ fo=>nN fo λ t s outs a σ h ga gs=>ob.u h λ s' aa h=>(s'.2 a σ ga gs).elim λ b8 z=>D2.one h rfl z.1 λ K w=>z.2 _ w
end
section
variable{prog:aK}{w:bw}{A:bn}{s:ar}{d it:au}{o:Obj}{es:bD bf}{ep i:Nat}
theorem EU(h:s.heap.get? d=af o)(c:o.ExactDict):s.TypeIs (.ref d) "dict":=⟨o,h,c.1⟩
theorem L0{Q:ak->ar->Prop}(ne:d≠di)(h:s.heap.get? d=af o)(c:o.ExactDict)(hd:o.data= .dict es ep)
  (q:Q (.ref s.heap.objs.size) {s with heap:=s.heap.push {cls:= .type "dict_keyiterator",data:= .fields #[.ref d, .int 0 0, .int es.size 0, .int ep 0]}}):aH (aE prog w) A (iB (.ref d)) Q dw s:=by
 have hT:=EU h c
 refine xY hT F.slot_dict_iter (cA F.slot_dict_iter hT F.entry_dict_iter ?_ (F.args_dict_iter_1 _))
 unfold bV.«dict.__iter__» Builtin.Dict.dictSlotNone
 refine aj (aj (mv hT ?_))
 show aH _ _ (pure (du d)) _ _ s
 refine aw ?_
 show aH _ _ (Builtin.Dict.showsAll d>>=_) _ _ s
 unfold Builtin.Dict.showsAll
 rw[bC (by simpa using ne)]
 refine aj (aw (aj (ei h hd (aj (nK h hd ?_)))))
 exact aj (cP (aw ⟨_,rfl,"dict_keyiterator",_,⟨_,aN _ rfl,rfl⟩,F.slot_dict_keyiterator_next.lookup,q⟩))
theorem Da{Q:aq ak->ar->Prop}(hh:A.handled=none)(h:s.heap.get? d=af o)(c:o.ExactDict)(hd:o.data= .dict es ep)(hit:s.heap.IsKeyIter it d i es.size ep)
  (q1:es[i]?=none->∀h',vU it s.heap h'->Q none {s with heap:=h'})
  (q2:∀e,es[i]?=af e->∀h',h'.IsKeyIter it d (i+1) es.size ep->k7 it s.heap h'->Q (af e.key) {s with heap:=h'}):aH (aE prog w) A (gN (.ref it)) Q dw s:=by
 obtain⟨oi,hoi,hci,Yp⟩:=id hit
 have hT:=hit.typeIs
 have name:∀{α:Type} {A:bn} {k:cQ->im α} {Q:α->ar->Prop} {E:ak->ar->Prop},aH (aE prog w) A (k "dict_keyiterator") Q E s->aH (aE prog w) A (typeNameOfWhole (.ref it)>>=k) Q E s:=
  λ h=>aj (iR hT h)
 unfold gN
 refine aj (kY (de (name:=bT "__next__") hT F.slot_dict_keyiterator_next
  (cA F.slot_dict_keyiterator_next hT F.entry_dict_keyiterator_next ?_ (F.args_dict_keyiterator_next_1 _))))
 refine aj (aw (aj (aj ?_)))
 first|refine aj (iR hT (aw ?_))|refine aj (pS hT (aw ?_))
 refine aj (Ej hoi Yp ?_)
 rw[show Builtin.Dict_items.ownsTuple "dict_keyiterator"=false from by decide,bC aX]
 show aH _ _ (if (du d==c_)=true then _ else _) _ _ s
 rw[bC (show ¬((du d==c_)=true) from aX)]
 refine aj (aw (aj (ei h hd ?_)))
 rw[bC (by simp)]
 refine aj (aw (aj (nK h hd ?_)))
 rw[bC (by simp)]
 refine aw ?_
 dsimp only
 rw[show(if (i:Int) < 0 then none else es[(i:Int).toNat]?)=es[i]? from bC (gZ.mpr (ku i))]
 cases hx:es[i]? with
 |none=>
  dsimp only
  refine aj ?_
  first|refine aj (iR hT (aw ?_))|refine aj (pS hT (aw ?_))
  show aH _ _ (setField (.ref it) 0 .none>>=_) _ _ s
  refine aj (oM hoi Yp (by simp) ?_)
  show aH _ _ (Eh (.type "StopIteration") []>>=_) _ _ _
  refine aj ?_
  unfold Eh newTuple
  refine aj (cP ?_ (by size_fits))
  refine aj (m:=jJ _ _) (bu (a:=c_) (by first|rfl|(simp only[jJ]; rfl)) ?_)
  refine cP ?_ (by size_fits)
  unfold raiseNew
  refine aj (wpAny_handled ?_)
  rw[show A.in1.handled=none from hh]
  refine aj (aw (wpAny_throw ?_))
  refine aj (eQ (T:="StopIteration") (b:=true) ⟨_,aN _ rfl,rfl⟩ Eg ?_)
  exact aw (q1 hx _ (((dF ..).extBut.push _).push _))
 |some e=>
  dsimp only
  refine aj ?_
  first|refine aj (iR hT (aw ?_))|refine aj (pS hT (aw ?_))
  refine aj (wpAny_isOneOf_keyiter hT ?_)
  show aH _ _ (setField (.ref it) 1 (nJ ((i:Int)+1))>>=_) _ _ s
  refine aj (oM hoi Yp (by simp) ?_)
  have Ys:(s.heap.update it (Obj.mapFields (·.setIfInBounds 1 (nJ ((i:Int)+1))))).IsKeyIter it d (i+1) es.size ep:=
   ⟨_,dK _ hoi (Obj.isFreed_of_fields (Obj.data_mapFields Yp _)),(Obj.cls_mapFields ..).trans hci,by rw[Obj.data_mapFields Yp]; simp [nJ]⟩
  refine aj (bU ?_)
  refine aj (wpAny_isOneOf_keyiter (s:={s with heap:=s.heap.update it (Obj.mapFields (·.setIfInBounds 1 (nJ ((i:Int)+1))))}) Ys.typeIs ?_)
  show aH _ _ (pure e.key) _ _ _
  exact aw (aw ⟨_,rfl,aw (q2 e hx _ Ys (dF ..))⟩)
end
noncomputable def nS:ae AV->Nat->aq AV
 |v::_,0=>af v
 |_::r,i+1=>nS r i
 |[],_=>none
theorem qE:∀(l:ae AV) (i:Nat),nS l i=l[i]?
 |[],_=>rfl
 |_::_,0=>rfl
 |_::r,i+1=>qE r i
inductive IK where
 |fz (k:Nat) (rest:ae AV)|own (p k:Nat)|j_ (n:Nat) (i c:Int)|keys (k:Nat) (rest:ae (ae Int))
inductive ItF(G:BM)(ρ:ae au)(h:Heap)(I:au)(k:Nat)(rest:ae AV):Prop
 |mk (l:au) (o:Obj) (vs:bD ak) (xs:ae AV) (i:h.IsListIter I l k) (g:G l=af o) (lo:i3 o vs) (v:bJ G ρ xs vs.toList) (e:rest=xs.drop k)
inductive ItD(G:BM)(h:Heap)(I:au)(k:Nat)(rest:ae (ae Int)):Prop
 |mk (d:au) (o:Obj) (es:bD bf) (ep:Nat) (us:ae ak) (ks:ae (ae Int)) (g:G d=af o) (x:o.ExactDict) (hd:o.data= .dict es ep) (r:pE G ks es.toList us) (i:h.IsKeyIter I d k es.size ep) (e:rest=ks.drop k)
def Im(G:BM)(ρ:ae au)(h:Heap)(I:au):IK->Prop
 | .fz k rest=>ItF G ρ h I k rest
 | .own p k=>∃l,ρ[p]?=af l/\h.IsListIter I l k
 | .j_ n i c=>Ba h I i n c
 | .keys k rest=>ItD G h I k rest
theorem Im.up{G G':BM}{ρ ρ':ae au}{h h':Heap}{I:au}(g:dG G G')(x:Ext ρ ρ')(k:∀o,h.get? I=af o->h'.get? I=af o){ik:IK}(q:Im G ρ h I ik):Im G' ρ' h' I ik:=by
 cases ik with
 |fz n rest=>exact ItF.casesOn (motive:=λ aa=>ItF G' ρ' h' I n rest) q λ l o vs xs i hg lo v e=>⟨l,o,vs,xs,i.imp λ aa=> .imp_left (k _),g _ _ hg,lo,v.up g x,e⟩
 |own p n=>exact cR (λ l=> .imp x.get (.imp λ aa=> .imp_left (k _))) q
 |j_ n i c=>exact k _ q
 |keys n rest=>exact ItD.casesOn (motive:=λ aa=>ItD G' h' I n rest) q λ d o es ep us ks hg c e r i q=>⟨d,o,es,ep,us,ks,g _ _ hg,c,e,r.up g,i.imp λ aa=> .imp_left (k _),q⟩
def Vp(o:aq AV)(p k:Nat)(K:aq (AV×IK)->Prop):Prop:=match o with
 |some v=>K (af (v, .own p (k+1)))
 |none=>K none
def AA(ik:IK)(mem:ae AO)(K:aq (AV×IK)->Prop):Prop:=match ik with
 | .fz k rest=>(match rest with
  |[]=>K none
  |v::r=>K (af (v, .fz (k+1) r)))
 | .own p k=>pJ mem p λ o=>match o with
  | .lst xs=>Vp (nS xs k) p k K
  | .il ns=>Vp (nS (bX ns) k) p k K
  |_=>False
 | .j_ n i c=>(match n with
  |0=>K none
  |n+1=>K (af (.int i, .j_ n (i+c) c)))
 | .keys k rest=>(match rest with
  |[]=>K none
  |v::r=>K (af (.tup (bX v), .keys (k+1) r)))
noncomputable def pt:IK->aC
 | .fz _ _=>true
 | .own _ _=>true
 |_=>false
theorem pE.len{G:BM}:∀{ks:ae (ae Int)} {es:ae bf} {us:ae ak},pE G ks es us->es.length=ks.length
 |[],_,_=>λ h=>h.u0 (Q:=λ es aa=>es.length=0) rfl
 |k::ks,_,_=>λ h=>h.uc (Q:=λ es aa=>es.length=ks.length+1) λ aa aa aa aa aa h=>ah (·+1) (pE.len h)
theorem pE.at{G:BM}{ρ:ae au}:∀{ks:ae (ae Int)} {es:ae bf} {us:ae ak},pE G ks es us->∀{i:Nat} {k:ae Int},ks[i]?=af k->∃e,es[i]?=af e/\VR G ρ (.tup (bX k)) e.key
 |[],_,_,_,i,_,e=>cm e
 |k::ks,_,_,h,0,k',e=>h.uc (Q:=λ es aa=>∃e,es[0]?=af e/\VR G ρ (.tup (bX k')) e.key) λ a u es us t aa=>⟨_,rfl,am e▸aD t λ o t=>t.elim λ vs t=>VR.aad t.1 t.2.1 (oX t.2.2)⟩
 |k::ks,_,_,h,j+1,k',e=>h.uc (Q:=λ es aa=>∃e,es[j+1]?=af e/\VR G ρ (.tup (bX k')) e.key) λ a u es us aa h=>pE.at (i:=j) h e
theorem RF.own{F:Fd}{G:BM}{ρ:ae au}{σ:St}{s:ar}{v:ak}{aS:ae bI}{p:Nat}{o:AO}(R:RF F aS G ρ σ s)(va:VR G ρ (.own p) v)(e:bM σ.mem p=af o){Q:ak->Prop}(k:∀adr ob,ρ[p]?=af adr->s.heap.get? adr=af ob->OR G ρ o ob->Q (.ref adr)):Q v:=
 va.QJ λ adr jN=>(R.rm.obj p adr o jN ((eO ..).symm.trans e)).elim λ ob q=>k adr ob jN q.1 q.2
section
variable{P:cC}{ct:Ct}{F:Fd}{G:BM}{ρ:ae au}{σ:St}{s:ar}{I:au}{ik:IK}
structure Nx1(F:Fd)(aS:ae bI)(G:BM)(ρ:ae au)(σ:St)(I:au)(ik:IK)(K:aq (AV×IK)->Prop)(v:AV)(E2:IK)(u:ak)(s:ar):Prop where
 R:RF F aS G ρ σ s
 L:Loose F G ρ s I
 vr:VR G ρ v u
 i:Im G ρ s.heap I E2
 l:pt ik=false\/∃l k,s.heap.IsListIter I l k
 e:pt E2=pt ik
 k:K (af (v,E2))
def NxR(F:Fd)(aS:ae bI)(G:BM)(ρ:ae au)(σ:St)(I:au)(ik:IK)(K:aq (AV×IK)->Prop)(r:aq ak)(s:ar):Prop:=match r with
 |none=>RF F aS G ρ σ s/\K none
 |some u=>∃v E2,Nx1 F aS G ρ σ I ik K v E2 u s
variable{K:aq (AV×IK)->Prop}
abbrev NW(P:cC)(ct:Ct)(F:Fd)(G:BM)(ρ:ae au)(σ:St)(I:au)(ik:IK)(K:aq (AV×IK)->Prop)(s:ar):Prop:=aH (aE P.prog P.w) F.A (gN (.ref I)) (NxR F ct.aS G ρ σ I ik K) dw s
theorem next_end(R:RF F ct.aS G ρ σ s)(Lo:Loose F G ρ s I)(k:K none)(h':Heap)(e:vU I s.heap h'):NxR F ct.aS G ρ σ I ik K none {s with heap:=h'}:=
 ⟨R.side (s':={s with heap:=h'}) (λ a o ne q=>e a o ne q) Lo.ρ Lo.G Lo.h Lo.L Lo.c ⟨rfl,rfl,rfl⟩,k⟩
theorem C9(O:gO P ct F)(R:RF F ct.aS G ρ σ s)(Lo:Loose F G ρ s I){l:au}{k:Nat}{o:Obj}{vs:bD ak}{xs:ae AV}(hi:s.heap.IsListIter I l k)(ho:s.heap.get? l=af o)(hl:i3 o vs)(hv:bJ G ρ xs vs.toList)
  (k0:xs[k]?=none->K none) (k1:∀v,xs[k]?=af v->∃E2,pt E2=pt ik/\(∀h':Heap,h'.IsListIter I l (k+1)->Im G ρ h' I E2)/\K (af (v,E2))):NW P ct F G ρ σ I ik K s:=
 have L:s.heap.IsList l vs:=⟨o,ho,hl.is⟩
 have ee:vs[k]?=vs.toList[k]?:=bP.symm
 match e:xs[k]? with
 |none=>wpAny_pyNext_list_end O.room.2.2 hi L (ee.trans (ff (aG (aV hv.length) (nV.mp e)))) (next_end R Lo (k0 e))
 |some v=>(hv.get e).elim λ u hu=>(k1 v e).elim λ E2 q=>wpAny_pyNext_list_item hi L (ee.trans hu.1) λ h' wP sb=>
   have al:∃o,h'.get? I=af o:=wP.imp λ aa=>eH
   have z:=R.Nw (s':={s with heap:=h'}) Lo (λ a o ne e=>sb.extBut a o ne e) al ⟨rfl,rfl,rfl⟩
   ⟨v,E2,z.1,z.2,hu.2,q.2.1 h' wP, .inr ⟨_,_,wP⟩,q.1,q.2.2⟩
theorem yS{α:Type}{xs:ae α}{k:Nat}(e:xs[k]?=none):xs.drop k=[]:=F1.mpr (nV.mp e)
theorem yT{α:Type}{xs:ae α}{k:Nat}{v:α}(e:xs[k]?=af v):xs.drop k=v::xs.drop (k+1):=by
 have h:=jo.mp e
 rw[← List.getElem_cons_drop h.1,h.2]
theorem C_(O:gO P ct F)(R:RF F ct.aS G ρ σ s)(Lo:Loose F G ρ s I){l:au}{p k:Nat}{o:Obj}{vs:bD ak}{xs:ae AV}(hp:ρ[p]?=af l)(hi:s.heap.IsListIter I l k)(ho:s.heap.get? l=af o)(hl:i3 o vs)(hv:bJ G ρ xs vs.toList)(h:Vp (nS xs k) p k K):NW P ct F G ρ σ I (.own p k) K s:=
 C9 O R Lo hi ho hl hv (λ e=>(ah (Vp · p k K) ((qE xs k).trans e)).mp h) λ v e=>⟨.own p (k+1),rfl,λ h' wP=>⟨l,hp,wP⟩,(ah (Vp · p k K) ((qE xs k).trans e)).mp h⟩
theorem wW(O:gO P ct F)(R:RF F ct.aS G ρ σ s)(Lo:Loose F G ρ s I)(it:Im G ρ s.heap I ik)(h:AA ik σ.mem K):NW P ct F G ρ σ I ik K s:=by
 cases ik with
 |fz k rest=>
  obtain⟨l,o,vs,xs,hi,hg,hl,hv,rfl⟩:=it
  exact C9 O R Lo hi (R.rm.kg _ _ hg) hl hv (λ e=>(ah (λ r=>AA (.fz k r) σ.mem K) (yS e)).mp h) λ v e=>⟨.fz (k+1) (xs.drop (k+1)),rfl,λ h' wP=>⟨l,o,vs,xs,wP,hg,hl,hv,rfl⟩,(ah (λ r=>AA (.fz k r) σ.mem K) (yT e)).mp h⟩
 |own p k=>
  exact aD it λ l z=>pJ.u h λ ao Yl h=>(R.rm.obj _ _ _ z.1 ((eO ..).symm.trans Yl)).elim λ ob q=>by
   rcases ao with xs|_|_|_|_|_|_|_
   case lst=>exact q.2.elim λ vs w=>C_ O R Lo z.1 z.2 q.1 w.1 w.2 h
   case il=>exact q.2.elim λ vs w=>C_ O R Lo z.1 z.2 q.1 w.1 (oX w.2) h
   all_goals exact h.elim
 |j_ n i c=>
  cases n with
  |zero=>exact wpAny_pyNext_range_end O.room.2.2 it (dT 0) (next_end R Lo h)
  |succ n=>
   refine JN it (Int.ofNat_succ_pos n) λ h' wP sb=>?_
   rw[show((n+1:Nat):Int) - 1=(n:Nat) from Int.add_sub_cancel (n:Int) 1] at wP
   have z:=R.Nw (s':={s with heap:=h',toks:=s.toks+1}) Lo (λ a o ne e=>sb.extBut a o ne e) ⟨_,wP⟩ ⟨rfl,rfl,rfl⟩
   exact⟨.int i, .j_ n (i+c) c,z.1,z.2,VR.mH,wP, .inl rfl,rfl,h⟩
 |keys k rest=>
  obtain⟨d,o,es,ep,us,ks,hd,c,e,r,hi,rfl⟩:=it
  have ee:es[k]?=es.toList[k]?:=bP.symm
  cases q:ks[k]? with
  |none=>exact Da O.room.2.2 (R.rm.kg _ _ hd) c e hi (λ aa=>next_end R Lo ((ah (λ r=>AA (.keys k r) σ.mem K) (yS q)).mp h)) λ en hx=>cm ((ee.trans (ff (aG (aV r.len) (nV.mp q)))).symm.trans hx)
  |some k'=>
   obtain⟨e',h2,h3⟩:=r.at (ρ:=ρ) q
   refine Da O.room.2.2 (R.rm.kg _ _ hd) c e hi (λ hx=>cm (hx.symm.trans (ee.trans h2))) λ en hx h' wP sb=>?_
   obtain rfl:=am (h2.symm.trans (ee.symm.trans hx))
   have al:∃o,h'.get? I=af o:=wP.imp λ aa=>eH
   have z:=R.Nw (s':={s with heap:=h'}) Lo (λ a o ne e=>sb.extBut a o ne e) al ⟨rfl,rfl,rfl⟩
   exact⟨_, .keys (k+1) (ks.drop (k+1)),z.1,z.2,h3,⟨d,o,es,ep,us,ks,hd,c,e,r,wP,rfl⟩, .inl rfl,rfl,(ah (λ r=>AA (.keys k r) σ.mem K) (yT q)).mp h⟩
def JZ(lD:aC)(v:AV)(K:IK->Prop):Prop:=match v with
 | .lst xs=>K (.fz 0 xs)
 | .row ns=>K (.fz 0 (bX ns))
 | .own p=>K (.own p 0)
 | .j_ a b c=>cK (lD&&Builtin.Range.small a b c) (K (.j_ (Builtin.Range.rangeSize a b c).toNat a c))
 | .bG ks _=>cK lD (K (.keys 0 ks))
 |_=>False
def I2(v:AV)(mem:ae AO)(K:Prop):Prop:=match v with
 | .own p=>pJ mem p λ o=>match o with
  | .lst _=>K
  | .il _=>K
  |_=>False
 |_=>K
theorem sZ(a b c:Int):0<=Builtin.Range.rangeSize a b c:=by
 unfold Builtin.Range.rangeSize
 split
 ·split
  ·have:=xR (a:=b - a - 1) (b:=c) (by omega) (by omega); omega
  ·exact dT _
 ·split
  ·have:=xR (a:=a - b - 1) (b:=-c) (by omega) (by omega); omega
  ·exact dT _
theorem JZ.u{lD:aC}{v:AV}{mem:ae AO}{K:IK->Prop}{Q:AV->Prop}(h:I2 v mem (JZ lD v K))(ko:∀p,I2 (.own p) mem (K (.own p 0))->Q (.own p))(kl:∀xs,K (.fz 0 xs)->Q (.lst xs))(kr:∀ns,K (.fz 0 (bX ns))->Q (.row ns))
  (kg:∀a b c,(lD&&Builtin.Range.small a b c)=true->K (.j_ (Builtin.Range.rangeSize a b c).toNat a c)->Q (.j_ a b c)) (kd:∀ks us,lD=true->K (.keys 0 ks)->Q (.bG ks us)):Q v:=by
 rcases v with _|_|_|_|_|p|_|_|_|_|_|xs|ns|_|_|⟨a,b,c⟩|_|⟨ks,us⟩
 case own=>exact ko p h
 case lst=>exact kl xs h
 case row=>exact kr ns h
 case j_=>exact cK.u h (kg a b c)
 case bG=>exact cK.u h (kd ks us)
 all_goals exact h.elim
theorem I2.u{p:Nat}{mem:ae AO}{K Q:Prop}(h:I2 (.own p) mem K)(kl:∀xs,bM mem p=af (.lst xs)->K->Q)(ki:∀ns,bM mem p=af (.il ns)->K->Q):Q:=pJ.u h λ o e h=>by
 rcases o with xs|_|_|_|_|_|_|_
 case lst=>exact kl xs e h
 case il ns=>exact ki ns e h
 all_goals exact h.elim
structure It1(F:Fd)(aS:ae bI)(G:BM)(ρ:ae au)(σ:St)(s:ar)(lD:aC)(K:IK->Prop)(I:au)(ik:IK)(s':ar):Prop where
 no:s.heap.get? I=none
 k:∀b o,s.heap.get? b=af o->s'.heap.get? b=af o
 z:s'.gens=s.gens/\s'.gens=s.gens/\s'.os=s.os
 R:RF F aS G ρ σ s'
 L:Loose F G ρ s' I
 i:Im G ρ s'.heap I ik
 n:pt ik=true\/lD=true
 h:K ik
def RV(F:Fd)(aS:ae bI)(G:BM)(ρ:ae au)(σ:St)(s:ar)(lD:aC)(K:IK->Prop)(i:ak)(s':ar):Prop:=∃I ik,i= .ref I/\It1 F aS G ρ σ s lD K I ik s'
theorem tR{aS:ae bI}{lD:aC}{K:IK->Prop}(R:RF F aS G ρ σ s)(o:Obj)(fr:o.isFreed=false)(hi:Im G ρ (s.heap.push o) s.heap.objs.size ik)(hn:pt ik=true\/lD=true)(k:K ik):RV F aS G ρ σ s lD K (.ref s.heap.objs.size) {s with heap:=s.heap.push o}:=
 ⟨_,ik,rfl,R.K0,λ b o e=>aA _ e,⟨rfl,rfl,rfl⟩,R.grow (λ b o e=>aA _ e) ⟨rfl,rfl,rfl⟩,R.loose R.K0 ⟨_,aN _ fr⟩,hi,hn,k⟩
theorem sN{lD:aC}{K:IK->Prop}(R:RF F ct.aS G ρ σ s){l:au}{o:Obj}{vs:bD ak}(ho:s.heap.get? l=af o)(hl:i3 o vs)(e:pt ik=true)(k:K ik)(hi:∀(h:Heap) I,h.IsListIter I l 0->Im G ρ h I ik):aH (aE P.prog P.w) F.A (iB (.ref l)) (RV F ct.aS G ρ σ s lD K) dw s:=
 xX ⟨o,ho,hl.is⟩ (tR R _ rfl (hi _ _ ⟨_,aN _ rfl,rfl,rfl⟩) (.inl e) k)
theorem r8{v:AV}{u:ak}{lD:aC}{K:IK->Prop}(O:gO P ct F)(R:RF F ct.aS G ρ σ s)(va:VR G ρ v u)(h:I2 v σ.mem (JZ lD v K)):aH (aE P.prog P.w) F.A (iB u) (RV F ct.aS G ρ σ s lD K) dw s:=
 JZ.u (Q:=λ v=>VR G ρ v u->aH (aE P.prog P.w) F.A (iB u) (RV F ct.aS G ρ σ s lD K) dw s) h
  (λ p h va=>h.u (λ xs e k=>R.own va e (Q:=λ u=>aH (aE P.prog P.w) F.A (iB u) (RV F ct.aS G ρ σ s lD K) dw s) λ l ob hl ho q=>aD q λ vs q=>sN R ho q.1 rfl k λ h I hi=>⟨l,hl,hi⟩)
   λ ns e k=>R.own va e (Q:=λ u=>aH (aE P.prog P.w) F.A (iB u) (RV F ct.aS G ρ σ s lD K) dw s) λ l ob hl ho q=>aD q λ vs q=>sN R ho q.1 rfl k λ h I hi=>⟨l,hl,hi⟩)
  (λ xs k va=>va.lstU (Q:=λ u=>aH (aE P.prog P.w) F.A (iB u) (RV F ct.aS G ρ σ s lD K) dw s) λ l o vs hg hl hv=>sN R (R.rm.kg _ _ hg) hl rfl k λ h I hi=>⟨l,o,vs,xs,hi,hg,hl,hv,rfl⟩)
  (λ ns k va=>va.Dr (Q:=λ u=>aH (aE P.prog P.w) F.A (iB u) (RV F ct.aS G ρ σ s lD K) dw s) λ l o vs hg hl hv=>sN R (R.rm.kg _ _ hg) hl rfl k λ h I hi=>⟨l,o,vs,_,hi,hg,hl,oX hv,rfl⟩)
  (λ a b c hb k va=>aD va λ r z=>z.elim λ t z=>z.elim λ t' z=>z.elim λ t'' z=>z.1▸wpAny_pyIter_range (R.rm.kg _ _ z.2) (aF hb).2 (tR R _ rfl (ik:= .j_ (Builtin.Range.rangeSize a b c).toNat a c) ((ah (Ba _ _ a · c) (sx (sZ a b c))).mpr (aN _ rfl)) (.inr (aF hb).1) k))
  (λ ks us hb k va=>aD va λ d z=>z.elim λ o z=>z.elim λ es z=>z.elim λ ep z=>z.elim λ us z=>z.1▸L0 z.2.2.2.2.2.2.2 (R.rm.kg _ _ z.2.1) z.2.2.1 z.2.2.2.1 (tR R _ rfl (ik:= .keys 0 ks) ⟨d,o,es,ep,us,ks,z.2.1,z.2.2.1,z.2.2.2.1,z.2.2.2.2.1,⟨_,aN _ rfl,rfl,rfl⟩,rfl⟩ (.inr hb) k)) va
end
section
variable{P:cC}{ct:Ct}
noncomputable abbrev Body:=St->(Fl->St->Prop)->Prop
noncomputable def js(set:AV->St->(St->Prop)->Prop)(b:Body):Nat->IK->St->(Fl->St->Prop)->Prop
 |0,_,_,_=>False
 |n+1,ik,σ,K=>AA ik σ.mem λ r=>match r with
  |none=>K .d8 σ
  |some x=>set x.1 σ λ aI=>b aI λ f aW=>sj f aW (λ dC=>js set b n x.2 dC K) K
inductive LpI{P:cC}{ct:Ct}(t:TG P ct)(b:SS P ct)(F:Fd)(G₀:BM)(gL:ae au)(Kv:Fl->St->Prop)(I:au)(n:Nat)(s:ar):Prop
 |mk (G:BM) (ρ:ae au) (σ:St) (ik:IK) (g:dG G₀ G) (x:Ext gL ρ) (R:RF F ct.aS G ρ σ s) (L:Loose F G ρ s I) (i:Im G ρ s.heap I ik) (nm:pt ik=true\/t.lD=true) (h:js t.set b.run n ik σ Kv)
theorem MA{lD:aC}{ik:IK}{A:Prop}(nm:pt ik=true\/lD=true)(l:pt ik=false\/A):lD=true\/A:=nm.elim (λ q=> .inr (l.resolve_left λ e=>nomatch q.symm.trans e)) .inl
theorem Fg{t:TG P ct}{b:SS P ct}(JV:t.ch=true)(cb:b.ch=true){F:Fd}(O:gO P ct F){G₀:BM}{gL:ae au}{Kv:Fl->St->Prop}{I:au}(n:Nat)(s:ar)(q:LpI t b F G₀ gL Kv I n s):
  dP P.j (aE P.prog P.w) F.A (.forLoop t.bA (.ref I) b.bA [] F.env) (λ r s'=>match r with | .ok f=>PF F ct.aS G₀ gL Kv f s' | .error _=>False) s:=by
 refine X.forLoop (LpI t b F G₀ gL Kv I) (λ n s q=>?_) n q
 cases q with|mk G ρ σ ik g x R L i nm h=>
 cases n with
 |zero=>exact h.elim
 |succ n=>
  refine X.any (c7 (wW O R L i h) (λ r s₁ z=>?_) λ aa aa z=>z)
  cases r with
  |none=>exact PF.d8 g x z.1 z.2
  |some u=>exact aD z λ v z=>z.elim λ E2 z=>X.any (t.go _ _ I u _ (MA nm z.l) (X.any (c7 (t.ok JV (F.now G ρ s₁) G ρ σ _ v u _ (O.now z.R) z.R.now z.vr z.k) (λ aa bp y=>y.elim λ aI y=>
    X.mono (b.ok cb (F.now G ρ s₁) G ρ aI bp _ (O.now z.R) y.1 y.2) λ f fY w=>w.u λ rT lg fl dC kM kS lI fr fK=>have y:=z.R.over z.L lI
     match fl,fr,fK with
     | .d8,fr,fK=>(show f= .next from fr).symm▸⟨n,jq n,rT,lg,dC,E2,g.trans kM,x.trans kS,y.1,y.2.1,z.i.up kM kS y.2.2,z.e▸nm,fK⟩
     | .ret v,fr,fK=>aD fr λ w e=>e.1.symm▸⟨rT,lg, .ret v,dC,g.trans kM,x.trans kS,y.1,⟨w,rfl,e.2⟩,fK⟩) λ aa aa z=>z)))
def Uy(lD:aC)(set:AV->St->(St->Prop)->Prop)(b:Body)(v:AV)(σ:St)(K:Fl->St->Prop):Prop:=I2 v σ.mem (JZ lD v λ ik=>∃N,js set b N ik σ K)
inductive El where
 |fz (ts:ae TV)|own (p k:Nat)|j_ (n:Nat) (i c:Int)
def W4:El->IK->Prop
 | .fz ts,x=>∃k xs,x= .fz k xs/\dH ts xs
 | .own p k,x=>x= .own p k
 | .j_ n i c,x=>x= .j_ n i c
def GNx:aq (TV×El)->aq (AV×IK)->Prop
 |none,x=>x=none
 |some a,x=>∃b,x=af b/\GV a.1 b.1/\W4 a.2 b.2
noncomputable def Zc(p k:Nat)(t:aq TV):aq (TV×El):=match t with
 |some t=>af (t, .own p (k+1))
 |none=>none
noncomputable def oIx(o:TO):aq {r:ae Int // o= .ix r}:=match o with
 | .ix r=>af ⟨r,rfl⟩
 |_=>none
noncomputable def ixk:ae Int->Nat->aq TV
 |x::_,0=>af (.ex (.int x))
 |_::r,k+1=>ixk r k
 |[],_=>none
def Kr(ik:El)(m:ae TO):aq (aq (TV×El)):=match ik with
 | .fz []=>af none
 | .fz (t::r)=>af (af (t, .fz r))
 | .own p k=>ob (gW m p) λ o=>oe (ob (oLst o) λ vs=>af (Zc p k (RG vs.1 k))) (oe (ob (oIl o) λ q=>af (Zc p k (omk (WU q.1 k)))) (ob (oIx o) λ r=>af (Zc p k (ixk r.1 k))))
 | .j_ 0 _ _=>af none
 | .j_ (n+1) i c=>af (af (.ex (.int i), .j_ n (i+c) c))
where omk:aq (Int×Int)->aq TV
 |some q=>af (SQ q)
 |none=>none
def J5:aq TV->aq AV->Prop
 |none,w=>w=none
 |some t,w=>∃u,w=af u/\GV t u
theorem Zd{p k:Nat}{w:aq AV}:∀{o:aq TV},J5 o w->∃r',GNx (Zc p k o) r'/\∀K:aq (AV×IK)->Prop,K r'->Vp w p k K
 |none,g=>(show w=none from g)▸⟨none,rfl,λ aa z=>z⟩
 |some _,g=>aD g λ u z=>z.1▸⟨af (u, .own p (k+1)),⟨_,rfl,z.2,rfl⟩,λ aa z=>z⟩
theorem N1:∀{ts:ae TV} {us:ae AV} {i:Nat},dH ts us->J5 (RG ts i) (nS us i)
 |[],us,i,g=>g.u0 (Q:=λ us=>J5 none (nS us i)) (by cases i<;>rfl)
 |_::_,us,0,g=>g.uc (Q:=λ us=>J5 (af _) (nS us 0)) λ u aa gt aa=>⟨u,rfl,gt⟩
 |_::ts,us,i+1,g=>g.uc (Q:=λ us=>J5 (RG ts i) (nS us (i+1))) λ aa aa aa g=>N1 g
theorem MZ:∀{q:ae (Int×Int)} {r:ae Int} {i:Nat},rb q r->J5 (Kr.omk (WU q i)) (nS (bX r) i)
 |[],r,i,g=>g.u0 (Q:=λ r=>J5 none (nS (bX r) i)) (by cases i<;>rfl)
 |_::_,r,0,g=>g.uc (Q:=λ r=>J5 (af _) (nS (bX r) 0)) λ x aa h0 h1 aa=>⟨.int x,rfl,tX h0 h1⟩
 |_::q,r,i+1,g=>g.uc (Q:=λ r=>J5 (Kr.omk (WU q i)) (nS (bX r) (i+1))) λ aa aa aa aa g=>MZ g
theorem L5:∀(r:ae Int) (k:Nat),J5 (ixk r k) (nS (bX r) k)
 |[],k=>by cases k<;>rfl
 |x::_,0=>⟨.int x,rfl,rfl⟩
 |_::r,k+1=>L5 r k
theorem oe.u{α:Type}{x y:aq α}{a:α}{Q:Prop}(h:oe x y=af a)(k1:x=af a->Q)(k2:y=af a->Q):Q:=(sU h).elim k1 k2
abbrev NxT(r:aq (TV×El))(x:IK)(m':ae AO):Prop:=∃r',GNx r r'/\∀K:aq (AV×IK)->Prop,K r'->AA x m' K
theorem Fq{p k:Nat}{w:aq AV}{o:aq TV}{r:aq (TV×El)}{m':ae AO}(e:af (Zc p k o)=af r)(g:J5 o w)(f:∀K,Vp w p k K->AA (.own p k) m' K):NxT r (.own p k) m':=am e▸(Zd g).imp λ aa=> .imp_right λ h K z=>f K (h K z)
theorem Gj{ik:El}{m:ae TO}{r:aq (TV×El)}{x:IK}{m':ae AO}(h:Kr ik m=af r)(g:W4 ik x)(gm:GM m m'):NxT r x m':=by
 cases ik with
 |fz ts=>
  exact aD g λ k z=>z.elim λ xs z=>z.1▸(match ts,z.2,h with
   |[],gx,h=>am h▸dH.u0 (Q:=λ xs=>NxT none (.fz k xs) m') gx ⟨none,rfl,λ K z=>z⟩
   |t::ts,gx,h=>am h▸gx.uc (Q:=λ xs=>NxT (af (t, .fz ts)) (.fz k xs) m') λ v us gv gu=>⟨af (v, .fz (k+1) us),⟨_,rfl,gv,_,_,rfl,gu⟩,λ K z=>z⟩)
 |own p k=>
  exact(show x= .own p k from g)▸ob.u h λ o ho h=>(gm.at ho).elim λ o' m1=>oe.u h
   (λ h=>ob.u h λ vs aa h=>aD (show GO m' (.lst vs.1) o' from vs.2▸m1.2) λ us q=>Fq h (N1 q.2) λ K z=>dI m1.1 (q.1.symm▸z))
   λ h=>oe.u h (λ h=>ob.u h λ q aa h=>aD (show GO m' (.il q.1) o' from q.2▸m1.2) λ us e=>Fq h (MZ e.2) λ K z=>dI m1.1 (e.1.symm▸z))
    λ h=>ob.u h λ r' aa h=>Fq h (L5 r'.1 k) λ K z=>dI m1.1 ((show o'= .il r'.1 from(r'.2▸m1.2:GO m' (.ix r'.1) o')).symm▸z)
 |j_ n i c=>
  exact(show x= .j_ n i c from g)▸(match n,h with
   |0,h=>am h▸⟨none,rfl,λ K z=>z⟩
   |n+1,h=>am h▸⟨af (.int i, .j_ n (i+c) c),⟨_,rfl,rfl,rfl⟩,λ K z=>z⟩)
def J9(v:AV)(ts:ae TV):Prop:=∃xs,v= .lst xs/\dH ts xs
theorem Mq{h t:TV}{v:AV}{ts:ae TV}(k:∀v,GV t v->J9 v ts)(g:GV (.lc h t) v):J9 v (h::ts):=
 aD g λ y g=>g.elim λ ys g=>g.1▸(k _ g.2.2).elim λ xs z=>⟨_,rfl,y,ys,rfl,g.2.1,AV.lst.inj z.1▸z.2⟩
noncomputable def Th:(t:TV)->aq {ts:ae TV // ∀v,GV t v->J9 v ts}
 | .ln=>af ⟨[],λ v g=>⟨[],g,rfl⟩⟩
 | .lc h t=>ob (Th t) λ ts=>af ⟨h::ts.1,λ v g=>Mq ts.2 g⟩
 | .ex (.lst xs)=>af ⟨yW xs,λ v g=>⟨xs,g,lr xs⟩⟩
 |_=>none
def LO(o':AO)(K:Prop):Prop:=match o' with
 | .lst _=>K
 | .il _=>K
 |_=>False
noncomputable def acC(o:TO):aq {u:e6 // ∀m o',GO m o o'->∀K:Prop,K->LO o' K}:=match o with
 | .lst _=>af ⟨(),λ m o' g K k=>aD g λ aa g=>g.1▸k⟩
 | .il _=>af ⟨(),λ m o' g K k=>aD g λ aa g=>g.1▸k⟩
 | .ix _=>af ⟨(),λ m o' g K k=>(show o'= .il _ from g)▸k⟩
 |_=>none
noncomputable def adA(t:TV):aq {r:Int×Int×Int // t= .ex (.j_ r.1 r.2.1 r.2.2)}:=match t with
 | .ex (.j_ a b c)=>af ⟨(a,b,c),rfl⟩
 |_=>none
abbrev abj(lD:aC)(t:TV)(s:AS)(ik:El):Prop:=∀v σ,GV t v->GS s σ->∃x,W4 ik x/\∀K:IK->Prop,K x->I2 v σ.mem (JZ lD v K)
def aIt(lD:aC)(t:TV)(s:AS):aq {ik:El // abj lD t s ik}:=
 oe (ob (Th t) λ ts=>af ⟨.fz ts.1,λ v σ g gs=>(ts.2 v g).elim λ xs z=>z.1▸⟨.fz 0 xs,⟨0,xs,rfl,z.2⟩,λ K k=>k⟩⟩)
 (oe (ob (Wc t) λ r=>af ⟨.fz (yW (bX r.1)),λ v σ g gs=>lC g r.2▸⟨.fz 0 (bX r.1),⟨0,_,rfl,lr _⟩,λ K k=>k⟩⟩)
 (oe (ob (adA t) λ r=>bE (lD&&Builtin.Range.small r.1.1 r.1.2.1 r.1.2.2) λ hb=>af ⟨.j_ (Builtin.Range.rangeSize r.1.1 r.1.2.1 r.1.2.2).toNat r.1.1 r.1.2.2,λ v σ g gs=>lC g r.2▸⟨_,rfl,λ K k=>cK.i hb k⟩⟩)
 (ob (nU t) λ p=>jS (gW s.mem p.1) λ o ho=>ob (acC o) λ u=>af ⟨.own p.1 0,λ v σ g gs=>lC g p.2▸(gs.mem.at ho).elim λ o' m1=>⟨.own p.1 0,rfl,λ K k=>dI m1.1 (u.2 _ _ m1.2 _ k)⟩⟩)))
noncomputable def Co{set:AV->St->(St->Prop)->Prop}(st:(t:TV)->(s:AS)->aq {s':AS // yB set t s s'})(b:AS->aq (ae (AF×AS))):Nat->El->AS->aq (ae (AF×AS))
 |0,_,_=>none
 |n+1,ik,s=>ob (Kr ik s.mem) λ r=>match r with
  |none=>af [(.d8,s)]
  |some x=>ob (st x.1 s) λ s'=>bO (b s'.1) λ f s=>aFl f s (Co st b n x.2)
theorem sH{set:AV->St->(St->Prop)->Prop}{st:(t:TV)->(s:AS)->aq {s':AS // yB set t s s'}}{ba:AS->aq (ae (AF×AS))}{b:Body}(hb:Ab ba b GF):∀(n:Nat) (ik:El) (x:IK),W4 ik x->Ab (Co st ba n ik) (js set b n x) GF
 |0,_,_,_=>λ aa aa h=>nomatch h
 |n+1,ik,x,g=>λ s outs h σ gs=>ob.u h λ r e h=>(Gj e g gs.mem).elim λ r' z=>match r,z.1,h with
  |none,gr,h=>D2.one h rfl gs λ K w=>z.2 _ ((show r'=none from gr)▸w)
  |some y,gr,h=>aD gr λ q gq=>ob.u h λ s' aa h=>(s'.2 q.1 σ gq.2.1 gs).elim λ b8 k'=>
   (hb.bind h k'.1 λ f bp l₂ cW a aW ga oq=>Eo (C:=λ aW K=>js set b n q.2 aW K) (sH hb n y.2 q.2 gq.2.2) cW ga oq).eq λ K w=>z.2 _ (gq.1.symm▸k'.2 _ w)
def ZJ(t:TG P ct)(e:SE P ct)(b:SS P ct)(p:c9):SX P ct where
 bA:= .For t.bA e.bA b.bA [] p
 run:=λ σ K=>e.run σ λ v aI=>Uy t.lD t.set b.run v aI K
 ch:=vG 3 e.bA&&(t.ch&&(e.ch&&b.ch))
 ok:=λ c F G ρ σ s Kv O R h=>have d:=(xt (aF c).1).1; have c:=(aF c).2; X.For (d _) (X.mono (e.ok (aF (aF c).2).1 F G ρ σ s _ O R h) λ u s₁ z=>z.u λ dW c8 v aI fQ fu dS va bH=>
  X.any (c7 (r8 O dS va bH) (λ i bp z=>z.elim λ I z=>z.elim λ ik z=>z.1▸z.2.h.elim λ N cW=>Fg (aF c).1 (aF (aF c).2).2 O N bp ⟨dW,c8,aI,ik,fQ,fu,z.2.R,z.2.L,z.2.i,z.2.n,cW⟩) λ aa aa z=>z))
 ab:=Kt e.ab λ v s=>ob (aIt t.lD v s) λ ik=>Co t.st b.ab 12 ik.1 s
 cO:=λ fo=>nN fo λ v s outs a σ h ga gs=>ob.u h λ ik aa h=>(ik.2 a σ ga gs).elim λ x z=>(sH (b.cO fo) 12 ik.1 x z.1 s outs h σ gs).eq λ K w=>z.2 _ ⟨12,w⟩
end
namespace X
section
variable{α β:Type}{J:aC}{M:iy}{A:bn}{s:ar}{env:Env}
theorem KC{m:im α}{Q:Except ak α->ar->Prop}(h:cL J M A m (λ a s'=>Q (.ok a) s') s):cL J M A m.attempt Q s:=λ Γ p a c=>by
 rw[Sem.wp_attempt]
 exact oG M Γ m (λ aa aa aa z=>z) (λ aa aa aa f=>f.elim) p s (h Γ p a c)
def z0(J:aC)(M:iy)(A:bn)(use:aq (ak->im e6))(Q:ak->ar->Prop)(acc:ak)(C:au)(s':ar):Prop:=match use with
 |none=>∃m,s'.heap.Ns C m/\∀h',k7 C s'.heap h'->Q acc {s' with heap:=h'}
 |some u=>cL J M A (u acc) (λ aa s''=>∃m,s''.heap.Ns C m/\∀h',k7 C s''.heap h'->Q .none {s'' with heap:=h'}) s'
theorem comprehension{e:aB}{scope:qN}{pos:c9}{MC first:im ak}{g:i9}{gs:ae i9}{cl:ae (bI×au)}{use:aq (ak->im e6)}{Q:ak->ar->Prop}
  (hcl:clausesOf e=g::gs) (hs:∀x,eh g.iter env x=pure x) (Yo:Ee scope env=pure cl) (y2:scope.kind= .function) (UP:∀x∈scope.names,x.2= .local->scope.names.lookup x.1=af .local)
  (h:cL J M A first (λ x s₁=>cL J M A (iB x) (λ it bp=>cL J M A MC (λ acc fY=>cL J M A (newFunctionEnv scope env.globals cl [] env.qual none .none (af env)) (λ cenv te=>
    dP J M A (.compStart e 0 it acc {cenv with scope:=rP scope env}) (λ r s'=>match r with | .ok _=>z0 J M A use Q acc cenv.locals s' | .error _=>False) te) fY) bp) s₁) s):
  cL J M A (rM e scope env pos MC false first use) Q s:=by
 unfold rM
 rw[Yo,hcl]
 refine cM (mono h λ x s₁ bH=>at_ (cM (XX (hs x) (cM (holds (mono bH λ it bp cW=>?_))))))
 have ZY:∀{γ:Type} {c:Prop} [fF c] {pos:c9} {k:PUnit->im γ} {Q:γ->ar->Prop} {s:ar},cL J M A (k ()) Q s->cL J M A (if c then (dp pos>>=k) else k ()) Q s:=λ{_ c _ _ _ _ _} h=>by
  by_cases q:c
  ·rw[dq q]; exact at_ h
  ·rw[bC q]; exact h
 refine ZY (cM (mono cW λ acc fY fK=>cM (ret (cM (mono fK λ cenv te nQ=>?_)))))
 dsimp only
 have hv:∀l:ae (bI×dJ),(∀x∈l,x∈scope.names.filter λ x=>(x.2== .local||x.2== .cell)&&x.1 !=(".0":bI))->∀x∈l,x.2= .local->Env.kindOf {cenv with scope:=rP scope env} x.1=af .local:=
  λ l hl x hx e=>lookup_relabel_local (UP x (List.mem_filter.mp (hl x hx)).1 e)
 refine holds (cM (KC (holds (runs rfl (eu nQ λ r s' hr=>?_)))))
 cases r with
 |error x=>exact hr.elim
 |ok f=>
  cases use with
  |none=>
   obtain⟨m,hn,hr⟩:=hr
   exact cM (holds (any (wpAny_comp_letGo (cenv:={cenv with scope:=rP scope env}) y2 _ s' m (hv _ λ x hx=>vj.mp hx) hn λ h' m' aa Yw=>ret (hr h' Yw))))
  |some u=>
   refine cM (any (mE (cM (holds (mono hr λ aa s'' hr'=>?_)))))
   obtain⟨m,hn,hr'⟩:=hr'
   refine cM (any (wpAny_comp_letGo (cenv:={cenv with scope:=rP scope env}) y2 _ s'' m (hv _ λ x hx=>?_) hn λ h' m' aa Yw=>ret (hr' h' Yw)))
   rcases fS.mp hx with h1|h1
   ·exact vj.mp (F4 h1)
   ·exact vj.mp (F5 h1)
end
section
variable{J:aC}{prog:aK}{w:bw}{A:bn}{s:ar}{R:iT->ar->Prop}{elt:aB}{gens:ae i9}{scope:qN}{pos:c9}{depth:Nat}{it acc:ak}{env:Env}
theorem compStart(ha:((gens)[depth]?).elim false (λ g=>g.is_async !=0)=false)
  (h0:dP J (aE prog w) A (.compLoop (.ListComp elt gens scope pos) depth it acc env) R s)
  (h:cL J (aE prog w) A (iB it) (λ wP s'=>dP J (aE prog w) A (.compLoop (.ListComp elt gens scope pos) depth wP acc env) R s') s):
  dP J (aE prog w) A (.compStart (.ListComp elt gens scope pos) depth it acc env) R s:=by
 refine tree ?_
 show cL J _ A ((PySem.compStart (.ListComp elt gens scope pos) depth it acc env).onRaise (λ x=>do qR x env; dp theWindowsPlace)) _ s
 refine raises ?_
 unfold PySem.compStart
 have e:((clausesOf (.ListComp elt gens scope pos))[depth]?).elim false (·.is_async !=0)=false:=ha
 rw[e]
 show cL J _ A (ask>>=_) _ s
 refine cM (any (iC ?_))
 have fin:∀{wP:ak} {s':ar},dP J (aE prog w) A (.compLoop (.ListComp elt gens scope pos) depth wP acc env) R s'->cL J (aE prog w) A (qP (.compLoop (.ListComp elt gens scope pos) depth wP acc env))
   (λ fin s'=>match fin with | .done f=>R (.ok f) s' | .again c'=>c'.quiet=true/\Dd c'=true/\dP J (aE prog w) A c' R s') s':=λ h=>ret ⟨rfl,rfl,h⟩
 split
 ·exact fin h0
 ·refine cM (any (mE ?_))
  dsimp only
  split
  ·refine at_ (cM (mono h λ wP s' h'=>fin h'))
  ·exact cM (mono h λ wP s' h'=>fin h')
theorem compLoop{t:aB}{tail:im PySem.Fin}(ip:c9)(ht:m7 (.ListComp elt gens scope pos) depth it acc env=(dp ip>>=λ aa=>gN it>>=λ r=>match r with
   |none=>pure (.done .next)
   |some v=>dy t it v>>=λ aa=>assign t env v>>=λ aa=>tail))
  (I:Nat->ar->Prop)
  (turn:∀n s,I n s->cL J (aE prog w) A (gN it) (λ r s₁=>match r with
   |none=>R (.ok .next) s₁
   |some v=>cL J (aE prog w) A (dy t it v) (λ aa NI=>cL J (aE prog w) A (assign t env v) (λ aa bp=>cL J (aE prog w) A tail (λ fin fY=>fin= .again (.compLoop (.ListComp elt gens scope pos) depth it acc env)/\∃m,m < n/\I m fY) bp) NI) s₁) s)
  (n:Nat) (h:I n s):dP J (aE prog w) A (.compLoop (.ListComp elt gens scope pos) depth it acc env) R s:=by
 induction n using xT generalizing s with
 |ind n ih=>
  refine tree ?_
  show cL J _ A ((m7 (.ListComp elt gens scope pos) depth it acc env).onRaise (λ x=>do qR x env; k9 x)) _ s
  refine raises ?_
  rw[ht]
  refine at_ (cM (mono (turn n s h) λ r s₁ bH=>?_))
  cases r with
  |none=>exact ret bH
  |some v=>
   refine cM (mono bH λ aa bp cW=>cM (mono cW λ aa fY fK=>mono fK λ fin te nQ=>?_))
   obtain⟨rfl,m,hm,hI⟩:=nQ
   exact⟨rfl,rfl,ih m hm hI⟩
noncomputable def ww(elt:aB)(env:Env)(acc:ak):im e6:=do let _ ← call (.builtin "list.append") [acc,← eval elt env]
theorem aae{t i:aB}:m7 (.ListComp elt [⟨t,i,[],0⟩] scope pos) 0 it acc env=(dp i.pos>>=λ aa=>gN it>>=λ r=>match r with
   |none=>pure (.done .next)
   |some v=>dy t it v>>=λ aa=>assign t env v>>=λ aa=>(ww elt env acc>>=λ aa=>qP (.compLoop (.ListComp elt [⟨t,i,[],0⟩] scope pos) 0 it acc env))):=by rfl
theorem Wj{t i c:aB}:m7 (.ListComp elt [⟨t,i,[c],0⟩] scope pos) 0 it acc env=(dp i.pos>>=λ aa=>gN it>>=λ r=>match r with
   |none=>pure (.done .next)
   |some v=>dy t it v>>=λ aa=>assign t env v>>=λ aa=>(do
     let s ← forIn [c] true λ c s=>if s=true then (kW c env (eval c env)>>=λ ok=>pure (oD ok)) else pure (oD s)
     if s=true then (ww elt env acc>>=λ aa=>qP (.compLoop (.ListComp elt [⟨t,i,[c],0⟩] scope pos) 0 it acc env)) else qP (.compLoop (.ListComp elt [⟨t,i,[c],0⟩] scope pos) 0 it acc env))):=by rfl
theorem Wk{t i:aB}{g:i9}:m7 (.ListComp elt [g,⟨t,i,[],0⟩] scope pos) 1 it acc env=(dp i.pos>>=λ aa=>gN it>>=λ r=>match r with
   |none=>pure (.done .next)
   |some v=>dy t it v>>=λ aa=>assign t env v>>=λ aa=>(ww elt env acc>>=λ aa=>qP (.compLoop (.ListComp elt [g,⟨t,i,[],0⟩] scope pos) 1 it acc env))):=by rfl
theorem RB{t i t' i':aB}{cs:ae aB}:m7 (.ListComp elt [⟨t,i,[],0⟩,⟨t',i',cs,0⟩] scope pos) 0 it acc env=(dp i.pos>>=λ aa=>gN it>>=λ r=>match r with
   |none=>pure (.done .next)
   |some v=>dy t it v>>=λ aa=>assign t env v>>=λ aa=>(do
     let x ← eval i' env
     dp i'.pos
     let x ← eh i' env x
     let _ ← runOwn (.compStart (.ListComp elt [⟨t,i,[],0⟩,⟨t',i',cs,0⟩] scope pos) 1 (← holding [x] (iB x)) acc env) env
     qP (.compLoop (.ListComp elt [⟨t,i,[],0⟩,⟨t',i',cs,0⟩] scope pos) 0 it acc env))):=by rfl
end
end X
noncomputable def NE(env:Env)(p:bI×dJ)(acc:ae (bI×au)):ae (bI×au):=if p.2== .free then (match env.cells.lookup p.1 with|some c=>(p.1,c)::acc|none=>acc) else acc
noncomputable def kI(env:Env):ae (bI×dJ)->ae (bI×au)->ae (bI×au)
 |[],acc=>acc
 |p::r,acc=>kI env r (NE env p acc)
theorem NE.u{env:Env}{p:bI×dJ}{acc:ae (bI×au)}{Q:ae (bI×au)->Prop}(k0:Q acc)(k1:∀c,env.cells.lookup p.1=af c->Q ((p.1,c)::acc)):Q (NE env p acc):=by
 unfold NE
 split
 ·cases e:env.cells.lookup p.1 with
  |none=>exact k0
  |some c=>exact k1 c e
 ·exact k0
theorem NF{env:Env}{n:bI}{c:au}{acc:ae (bI×au)}(h:env.cells.lookup n=af c):NE env (n, .free) acc=(n,c)::acc:=by
 unfold NE
 rw[h]; rfl
noncomputable abbrev Sub(env:Env)(acc:ae (bI×au)):Prop:=∀y d,acc.lookup y=af d->env.cells.lookup y=af d
theorem NG{env:Env}{n:bI}{c:au}{acc:ae (bI×au)}(h:Sub env acc)(hc:env.cells.lookup n=af c):Sub env ((n,c)::acc):=λ y d q=>by
 rw[f7] at q
 cases e:y==n with
 |true=>rw[e] at q; exact(ah (λ x=>env.cells.lookup x) (a_.mp e)).trans (hc.trans q)
 |false=>rw[e] at q; exact h y d q
theorem HS{env:Env}{p:bI×dJ}{acc:ae (bI×au)}(h:Sub env acc):Sub env (NE env p acc):=NE.u (Q:=Sub env) h λ aa=>NG h
theorem wm{scope:qN}{env:Env}(h:∀x∈scope.names,x.2= .free->∃c,env.cells.lookup x.1=af c):Ee scope env=pure (kI env scope.names []):=by
 have go:∀(l:ae (bI×dJ)) (acc:ae (bI×au)),(∀x∈l,x.2= .free->∃c,env.cells.lookup x.1=af c)->
   (forIn l acc λ(x:bI×dJ) (cs:ae (bI×au))=>(do
    if x.2== .free then do
     let c ← cellOf env x.1
     pure (oD ((x.1,c)::cs))
    else pure (oD cs):im _))=(pure (kI env l acc):im _):=by
  intro l
  induction l with
  |nil=>intro acc _; rfl
  |cons x r ih=>
   intro acc hx
   obtain⟨n,k⟩:=x
   rw[xJ]
   show _=pure (kI env r (NE env (n,k) acc))
   unfold NE
   by_cases hk:(k==xM)=true
   ·obtain⟨c,hc⟩:=hx (n,k) aR (by simpa using hk)
    simp only[hk,if_true,hc]
    have e:cellOf env n=pure c:=by unfold cellOf; rw[hc]
    rw[e]
    exact ih _ λ y hy=>hx y (aP _ hy)
   ·simp only[hk]
    exact ih _ λ y hy=>hx y (aP _ hy)
 unfold Ee
 have:=go scope.names [] h
 exact(ah (λ m=>m>>=λ cs=>pure cs) this).trans rfl
theorem rY{env:Env}:∀(l:ae (bI×dJ)) (acc:ae (bI×au)),(∀x c,acc.lookup x=af c->env.cells.lookup x=af c)->∀x c,(kI env l acc).lookup x=af c->env.cells.lookup x=af c
 |[],_,h=>h
 |_::r,_,h=>rY r _ (HS h)
theorem LD{x n:bI}{c:au}{acc:ae (bI×au)}(h:(acc.lookup x).isSome=true):(((n,c)::acc).lookup x).isSome=true:=by
 rw[f7]
 cases x==n
 ·exact h
 ·rfl
theorem LF{x:bI}{c:au}{acc:ae (bI×au)}:(((x,c)::acc).lookup x).isSome=true:=by
 rw[f7,qS]; rfl
theorem tO{env:Env}{x:bI}{c:au}(hc:env.cells.lookup x=af c):∀(l:ae (bI×dJ)) (acc:ae (bI×au)),(∀y d,acc.lookup y=af d->env.cells.lookup y=af d)->(acc.lookup x).isSome=true\/(x,xM)∈l->(kI env l acc).lookup x=af c
 |[],acc,h,q=>(jx.mp (q.resolve_right bK)).elim λ d hd=>hd.trans ((h x d hd).symm.trans hc)
 |p::r,acc,h,q=>tO hc r _ (HS h) (q.elim (λ q=> .inl (NE.u (Q:=λ acc=>(acc.lookup x).isSome=true) q λ aa aa=>LD q)) λ m=>(bQ.mp m).elim (λ e=> .inl (e▸(ah (λ a=>(a.lookup x).isSome=true) (NF (acc:=acc) hc)).mpr LF)) .inr)
noncomputable def Fy(outer:ae (bI×dJ))(l:ae (bI×dJ)):ae (bI×dJ):=l.map λ x=>if x.2== .free&&outer.lookup x.1==af .cell then (x.1, .cell) else x
structure xN where
 scope:qN
 aS:ae bI
 src:ae (aq Nat)
noncomputable def xN.ct(B:xN)(ct:Ct):Ct:=⟨Fy ct.names B.scope.names,B.aS,true,false,false⟩
noncomputable def DG(ct:Ct)(scope:qN):ae bI->ae (aq Nat)->aC
 |x::r,none::t=>(scope.names.lookup x==af .local)&&DG ct scope r t
 |x::r,af i::t=>(ct.aS[i]?==af x)&&(scope.names.lookup x==af .free)&&(ct.names.lookup x==af .cell)&&DG ct scope r t
 |[],[]=>true
 |_,_=>false
noncomputable def wY:ae bI->aC
 |[]=>true
 |x::r=>!r.contains x&&wY r
theorem qD:∀{l:ae bI},wY l=true->l.Nodup
 |[],_=>gC
 |x::r,h=>dU.mpr ⟨λ m=>ay ((ah (!·) (D9.mpr m)).symm.trans (aF h).1),qD (aF h).2⟩
def xN.ok(B:xN)(ct:Ct):aC:=(B.scope.kind== .function)&&DG ct B.scope B.aS B.src&&wY B.aS&&
 B.scope.names.all (λ x=>(x.2 != .cell)&&(x.2 != .local||B.scope.names.lookup x.1==af .local)&&(x.2 != .free||(ct.names.lookup x.1==af .cell)))
noncomputable def sM(l:ae AV):ae (aq Nat)->ae AV
 |none::r=> .undef::sM l r
 |some i::r=>fE l i::sM l r
 |[]=>[]
theorem t4{ct:Ct}{scope:qN}:∀{aS:ae bI} {src:ae (aq Nat)} {l:ae AV} {i:Nat} {x:bI} {v:AV},DG ct scope aS src=true->aS[i]?=af x->(sM l src)[i]?=af v->v≠ .undef->
  ∃j,ct.aS[j]?=af x/\scope.names.lookup x=af .free/\ct.names.lookup x=af .cell/\fE l j=v
 |_::_,none::_,_,0,_,_,_,_,e2,n=>bt (am e2).symm n
 |_::r,none::t,l,i+1,_,_,h,e1,e2,n=>t4 (aS:=r) (src:=t) (i:=i) (aF h).2 e1 e2 n
 |_::_,af j::_,_,0,_,_,h,e1,e2,_=>have h1:=aF (aF h).1; have h2:=aF h1.1
  ⟨j,(a_.mp h2.1).trans e1,am e1▸a_.mp h2.2,am e1▸a_.mp h1.2,am e2⟩
 |_::r,af _::t,l,i+1,_,_,h,e1,e2,n=>t4 (aS:=r) (src:=t) (i:=i) (aF h).2 e1 e2 n
 |[],_,_,_,_,_,_,e1,_,_=>cm e1
 |_::_,[],_,_,_,_,h,_,_,_=>nomatch h
noncomputable def Zz(outer:ae (bI×dJ))(n:bI)(k:dJ):dJ:=if k== .free&&outer.lookup n==af .cell then .cell else k
theorem VF{outer:ae (bI×dJ)}(x:bI×dJ):(if x.2== .free&&outer.lookup x.1==af .cell then (x.1, .cell) else x)=(x.1,Zz outer x.1 x.2):=by
 unfold Zz
 split<;>rfl
theorem mK{outer:ae (bI×dJ)}:∀{l:ae (bI×dJ)} {x:bI},(Fy outer l).lookup x=(l.lookup x).map λ k=>if k== .free&&outer.lookup x==af .cell then .cell else k
 |[],_=>rfl
 |p::r,x=>by
  have ih:=@mK outer r x
  show((if p.2== .free&&outer.lookup p.1==af .cell then (p.1,NameKind.cell) else p)::Fy outer r).lookup x=(((p.1,p.2)::r).lookup x).map _
  rw[VF,f7,f7]
  cases hx:x==p.1 with
  |true=>rw[a_.mp hx]; rfl
  |false=>exact ih
section
variable{P:cC}{ct:Ct}
noncomputable def pr(F:Fd)(B:xN)(C:au)(s:ar)(ρ:ae au)(G:BM):Fd:=
 {A:=F.A,env:={newEnv B.scope C F.env.globals (kI F.env B.scope.names []) F.env.qual none .none (af F.env) li with scope:=rP B.scope F.env},h₀:=s.heap,gL:=ρ,G₀:=G,Z:=s,ro:=true}
theorem yI{B:xN}(h:B.ok ct=true):B.scope.kind= .function/\DG ct B.scope B.aS B.src=true/\B.aS.Nodup/\(∀x∈B.scope.names,x.2≠ .cell)/\(∀x∈B.scope.names,x.2= .local->B.scope.names.lookup x.1=af .local)/\(∀x∈B.scope.names,x.2= .free->ct.names.lookup x.1=af .cell):=by
 have h1:=aF h; have h2:=aF h1.1; have h3:=aF h2.1
 have d:=λ x hx=>aF (aZ.mp h1.2 x hx)
 exact⟨a_.mp h3.1,h3.2,qD h2.2,λ x hx=>rS.mp (aF (d x hx).1).1,λ x hx e=>a_.mp (((g_).mp (aF (d x hx).1).2).resolve_left λ n=>rS.mp n e),λ x hx e=>a_.mp (((g_).mp (d x hx).2).resolve_left λ n=>rS.mp n e)⟩
theorem rt{B:xN}{F:Fd}(O:gO P ct F):(rP B.scope F.env).names=Fy ct.names B.scope.names:=by
 unfold rP Fy
 refine sr λ x aa=>?_
 obtain⟨n,k⟩:=x
 have e:F.env.kindOf n=ct.names.lookup n:=by unfold Env.kindOf; rw[O.names]
 show(if (k== .free&&F.env.scope.kind== .function&&F.env.kindOf n==af .cell)=true then (n,NameKind.cell) else (n,k))=_
 rw[O.kind,e]
 simp
theorem IB{B:xN}(hb:B.ok ct=true){F:Fd}{G:BM}{ρ ρ':ae au}{σ:St}{mem':ae AO}{s s' s'':ar}{C:au}(O:gO P ct F)(R:RF F ct.aS G ρ σ s)(x:Ext ρ ρ')
  (R':RF F ct.aS G ρ' ⟨σ.loc,mem'⟩ s') (k':∀b o,s.heap.get? b=af o->s'.heap.get? b=af o) (z':s'.gens=s.gens/\s'.gens=s.gens/\s'.os=s.os) (nw:∀a∈ρ',a∈ρ\/s.heap.get? a=none)
  (hC:s'.heap.get? C=none) (hn:s''.heap.Ns C (λ aa=>none)) (k:∀b o,s'.heap.get? b=af o->s''.heap.get? b=af o) (z:s''.gens=s'.gens/\s''.gens=s'.gens/\s''.os=s'.os):
  gO P (B.ct ct) (pr F B C s ρ G)/\RF (pr F B C s ρ G) B.aS G ρ' ⟨sM σ.loc B.src,mem'⟩ s'':=by
 obtain⟨b1,b2,b3,b4,b5,b6⟩:=yI hb
 have kn:∀y,(pr F B C s ρ G).env.kindOf y=(Fy ct.names B.scope.names).lookup y:=λ y=>by show(rP B.scope F.env).names.lookup y=_; rw[rt O]
 have lk:∀y c,(kI F.env B.scope.names []).lookup y=af c->F.env.cells.lookup y=af c:=λ y c e=>rY _ [] (λ aa aa q=>by cases q) y c e
 have kF:∀y,F.env.kindOf y=ct.names.lookup y:=λ y=>by unfold Env.kindOf; rw[O.names]
 have cellK:∀y,(Fy ct.names B.scope.names).lookup y=af .cell->(y,xM)∈B.scope.names/\ct.names.lookup y=af .cell:=λ y e=>by
  rw[mK] at e
  obtain⟨kk,e1,e2⟩:=eM.mp e
  have hm:=mem_of_lookup e1
  split at e2
  ·rename_i q
   rw[jl,a_,a_] at q
   rw[q.1] at hm
   exact⟨hm,q.2⟩
  ·subst e2; exact bt rfl (b4 _ hm)
 have ne:∀a o,s'.heap.get? a=af o->a≠C:=λ a o e q=>by subst q; rw[hC] at e; cases e
 have Gn:G C=none:=by
  cases e:G C with
  |none=>rfl
  |some o=>have:=R'.rm.kg C o e; rw[hC] at this; cases this
 refine⟨⟨b1,?_,O.glob,O.blt,O.room,R.ja O,b3,rfl,λ y e=>?_,λ e=>(nomatch e),λ e=>(nomatch e)⟩,⟨R'.rm.keeps k,⟨_,hn⟩,λ i y v e e' n=>?_,Gn,λ hm=>?_,λ y c e=>?_,λ y y' c e e'=>R.p9 y y' c (lk _ _ e) (lk _ _ e'),λ a o aa aa e=>k a o (k' a o e),λ a o e=>⟨o,k a o (k' a o e)⟩,x,nw,dG.refl _,λ aa aa e=> .inl e,?_⟩⟩
 ·show(rP B.scope F.env).names=_; exact rt O
 ·obtain⟨hm,hc⟩:=cellK y e
  obtain⟨c,hc'⟩:=O.cells y hc
  exact⟨c,tO hc' _ [] (λ aa aa q=>by cases q) (.inr hm)⟩
 ·obtain⟨j,j1,j2,j3,j4⟩:=t4 b2 e e' n
  obtain⟨u,vu,a⟩:=R'.loc j y v j1 (qB _ _ _ j4 n) n
  refine⟨u,vu,?_⟩
  rcases a with⟨ka,_⟩|⟨_,c,hc,hv⟩
  ·rw[kF,j3] at ka; cases ka
  ·refine .inr ⟨.inl ?_,c,tO hc _ [] (λ aa aa q=>by cases q) (.inr (mem_of_lookup j2)),hv.keeps k⟩
   rw[kn,mK,j2,j3]; rfl
 ·obtain⟨o,ho⟩:=R'.rm.some_of hm; rw[show(pr F B C s ρ G).env.locals=C from rfl,hC] at ho; cases ho
 ·obtain⟨c1,c2,⟨v,hv⟩,c4⟩:=R'.cell y c (lk _ _ e)
  obtain⟨o,ho,_⟩:=id hv
  exact⟨ne c o ho,c2,⟨v,hv.keeps k⟩,λ q=>c4 (by rw[kF]; rw[kn] at q; exact(cellK y q).2)⟩
 ·have h1:s''.gens=s.gens:=z.1.trans z'.1
  exact GZ.of ⟨h1,h1,z.2.2.trans z'.2.2⟩
theorem KM{B:xN}{F:Fd}{G G':BM}{ρ ρ':ae au}{σ b8:St}{s s' s'':ar}{C:au}(O:gO P ct F)(R:RF F ct.aS G ρ σ s)(hC:s.heap.get? C=none)(R':RF (pr F B C s ρ G) B.aS G' ρ' b8 s')
  (k:∀b o,b≠C->s'.heap.get? b=af o->s''.heap.get? b=af o) (z:s''.gens=s'.gens/\s''.gens=s'.gens/\s''.os=s'.os):RF F ct.aS G' ρ' ⟨σ.loc,b8.mem⟩ s'':=by
 have kp:∀a o,a∉ρ->s.heap.get? a=af o->s''.heap.get? a=af o:=λ a o n e=>
  k a o (λ q=>by subst q; rw[hC] at e; cases e) (R'.keep a o n ⟨λ q=>(by rw[q] at e; rw[show(pr F B C s ρ G).env.locals=C from rfl,hC] at e; cases e),λ q=>(by cases q)⟩ e)
 refine R.HO R'.ext R'.Cy (R'.rm.HQ λ a o q e=>k a o (λ h=>?_) e) R'.nw R'.Bp kp ?_
 ·subst h
  rcases q with q|q
  ·exact R'.Bq q
  ·have:=R'.lG; rw[show(pr F B a s ρ G).env.locals=a from rfl,q] at this; cases this
 ·exact R'.gz.trans (GZ.of z)
end
section
variable{P:cC}{ct:Ct}
theorem wQ{F:Fd}{G:BM}{ρ:ae au}{s:ar}{I:au}{ik:IK}{Q:ak->ar->Prop}(it:Im G ρ s.heap I ik)(q:Q (.ref I) s):aH (aE P.prog P.w) F.A (iB (.ref I)) Q dw s:=by
 cases ik with
 |fz k rest=>exact ItF.casesOn (motive:=λ aa=>aH (aE P.prog P.w) F.A (iB (.ref I)) Q dw s) it λ aa aa aa aa i aa aa aa aa=>wpAny_pyIter_listiter i q
 |own p k=>exact aD it λ l z=>wpAny_pyIter_listiter z.2 q
 |j_ n i c=>exact wpAny_pyIter_rangeiter it q
 |keys k rest=>exact ItD.casesOn (motive:=λ aa=>aH (aE P.prog P.w) F.A (iB (.ref I)) Q dw s) it λ aa aa aa aa aa aa aa aa aa aa i aa=>wpAny_pyIter_keyiter i q
noncomputable abbrev JO:=St->(St->Prop)->Prop
noncomputable def lp(set:AV->St->(St->Prop)->Prop)(b:JO):Nat->IK->St->(St->Prop)->Prop
 |0,_,_,_=>False
 |n+1,ik,σ,K=>AA ik σ.mem λ r=>match r with
  |none=>K σ
  |some x=>set x.1 σ λ aI=>b aI λ aW=>lp set b n x.2 aW K
inductive PT(F:Fd)(aS:ae bI)(G:BM)(ρ:ae au)(K:St->Prop)(s':ar):Prop
 |mk (G':BM) (ρ':ae au) (b8:St) (g:dG G G') (x:Ext ρ ρ') (R:RF F aS G' ρ' b8 s') (k:K b8)
theorem PT.u{F:Fd}{aS:ae bI}{G:BM}{ρ:ae au}{K:St->Prop}{s:ar}{Q:Prop}(z:PT F aS G ρ K s)(k:∀G' ρ' b8,dG G G'->Ext ρ ρ'->RF F aS G' ρ' b8 s->K b8->Q):Q:=PT.casesOn (motive:=λ aa=>Q) z k
theorem PT.up{F:Fd}{aS:ae bI}{G G':BM}{ρ ρ':ae au}{K:St->Prop}{s:ar}(g:dG G G')(x:Ext ρ ρ')(h:PT F aS G' ρ' K s):PT F aS G ρ K s:=
 h.u λ a b c d e f k=>⟨a,b,c,g.trans d,x.trans e,f,k⟩
def Piece(P:cC)(ct:Ct)(A:bn)(env:Env)(D:au)(p:Nat)(b:JO)(t:im e6):Prop:=
 ∀F,F.A=A->F.env=env->gO P ct F->∀G ρ σ s K,RF F ct.aS G ρ σ s->ρ[p]?=af D->b σ K->WP P F.A t (λ aa s'=>PT F ct.aS G ρ K s') s
def sG(elt:SE P ct)(p:Nat):JO:=λ σ K=>elt.run σ λ v aI=>pJ aI.mem p λ o=>match o with
 | .lst xs=>cK (bB xs.length 1000000) (K (aI.put p (.lst (xs++[v]))))
 |_=>False
theorem r3{elt:SE P ct}(c:elt.ch=true){A:bn}{env:Env}{D:au}{p:Nat}:Piece P ct A env D p (sG elt p) (X.ww elt.bA env (.ref D)):=λ F hA he O G ρ σ s K R hp h=>by
 subst hA he
 unfold X.ww
 refine X.cM (X.mono (elt.ok c F G ρ σ s _ O R h) λ v s₁ z=>z.u λ dW c8 a aI fQ fu dS va bH=>bH.u λ ao e bH=>(dS.rm.obj _ _ _ (fu.get hp) ((eO ..).symm.trans e)).elim λ ob q=>?_)
 rcases ao with xs|_|_|_|_|_|_|_
 case lst=>
  exact bH.u λ hz bH=>q.2.elim λ vs w=>X.cM (X.any (JM (w.1.plain q.1) (λ h' L' sb=>(i3.of L').elim λ o' y=>
    X.ret ⟨dW,c8,_,fQ,fu,dS.rA (wf:= .lst (xs++[a])) (s':={s₁ with heap:=h'}) (fu.get hp) y.1 ⟨vs.push v,y.2,JC.symm▸w.2.append (.cons va .nil)⟩ (λ b o n e=>sb.extBut b o n e) ⟨rfl,rfl,rfl⟩,bH⟩)
   (aG (aV (bh.symm.trans w.2.length)) (aG (aQ hz) (dZ.symm▸(by decide:1000000<=16777216))))))
 all_goals exact bH.elim
inductive CpI{P:cC}{ct:Ct}(t:TG P ct)(b:JO)(p:Nat)(D:au)(F:Fd)(G₀:BM)(gL:ae au)(K:St->Prop)(I:au)(n:Nat)(s:ar):Prop
 |mk (G:BM) (ρ:ae au) (σ:St) (ik:IK) (g:dG G₀ G) (x:Ext gL ρ) (R:RF F ct.aS G ρ σ s) (hp:ρ[p]?=af D) (L:Loose F G ρ s I) (i:Im G ρ s.heap I ik) (nm:pt ik=true\/t.lD=true) (h:lp t.set b n ik σ K)
theorem yR{t:TG P ct}{b:JO}{elt:aB}{gens:ae i9}{scope:qN}{pos ip:c9}{depth:Nat}{D I:au}{p:Nat}{F:Fd}{pc:im e6}
  (ht:m7 (.ListComp elt gens scope pos) depth (.ref I) (.ref D) F.env=(dp ip>>=λ aa=>gN (.ref I)>>=λ r=>match r with
   |none=>pure (.done .next)
   |some v=>dy t.bA (.ref I) v>>=λ aa=>assign t.bA F.env v>>=λ aa=>(pc>>=λ aa=>qP (.compLoop (.ListComp elt gens scope pos) depth (.ref I) (.ref D) F.env))))
  (tc:t.ch=true) (pk:Piece P ct F.A F.env D p b pc) (O:gO P ct F) {G₀:BM} {gL:ae au} {K:St->Prop} (n:Nat) (s:ar) (q:CpI t b p D F G₀ gL K I n s):
  dP P.j (aE P.prog P.w) F.A (.compLoop (.ListComp elt gens scope pos) depth (.ref I) (.ref D) F.env) (λ r s'=>match r with | .ok _=>PT F ct.aS G₀ gL K s' | .error _=>False) s:=by
 refine X.compLoop ip ht (CpI t b p D F G₀ gL K I) (λ n s q=>?_) n q
 cases q with|mk G ρ σ ik g x R hp L i nm h=>
 cases n with
 |zero=>exact h.elim
 |succ n=>
  refine X.any (c7 (wW O R L i h) (λ r s₁ z=>?_) λ aa aa z=>z)
  cases r with
  |none=>exact⟨G,ρ,σ,g,x,z.1,z.2⟩
  |some u=>exact aD z λ v z=>z.elim λ E2 z=>X.any (t.go _ _ I u _ (MA nm z.l) (X.any (c7 (t.ok tc (F.now G ρ s₁) G ρ σ _ v u _ (O.now z.R) z.R.now z.vr z.k) (λ aa bp y=>y.elim λ aI y=>
    X.cM (X.mono (pk (F.now G ρ s₁) rfl rfl (O.now z.R) G ρ aI bp _ y.1 hp y.2) λ aa fY w=>w.u λ rT lg dC kM kS lI fK=>have y:=z.R.over z.L lI
     X.ret ⟨rfl,n,jq n,rT,lg,dC,E2,g.trans kM,x.trans kS,y.1,kS.get hp,y.2.1,z.i.up kM kS y.2.2,z.e▸nm,fK⟩)) λ aa aa z=>z)))
theorem zt{α β γ:Type}(m:im α)(f:α->im β)(g:β->im γ):m>>=f>>=g=m>>=λ a=>f a>>=g:=by
 simp only[i2,j6]; rfl
theorem bc{α β:Type}{m:im α}{f g:α->im β}(h:∀a,f a=g a):m>>=f=m>>=g:=by rw[funext h]
theorem Rz{t i c elt:aB}{scope:qN}{pos:c9}{it acc:ak}{env:Env}:m7 (.ListComp elt [⟨t,i,[c],0⟩] scope pos) 0 it acc env=(dp i.pos>>=λ aa=>gN it>>=λ r=>match r with
   |none=>pure (.done .next)
   |some v=>dy t it v>>=λ aa=>assign t env v>>=λ aa=>((kW c env (eval c env)>>=λ ok=>if ok=true then X.ww elt env acc else pure ())>>=λ aa=>qP (.compLoop (.ListComp elt [⟨t,i,[c],0⟩] scope pos) 0 it acc env))):=by
 rw[X.Wj]
 refine bc λ aa=>bc λ r=>?_
 cases r with
 |none=>rfl
 |some v=>
  refine bc λ aa=>bc λ aa=>?_
  rw[xJ]
  simp only[if_true]
  simp only[zt]
  refine bc λ b=>?_
  cases b<;>rfl
theorem NS{t i t' i' elt:aB}{cs:ae aB}{scope:qN}{pos:c9}{it acc:ak}{env:Env}:m7 (.ListComp elt [⟨t,i,[],0⟩,⟨t',i',cs,0⟩] scope pos) 0 it acc env=(dp i.pos>>=λ aa=>gN it>>=λ r=>match r with
   |none=>pure (.done .next)
   |some v=>dy t it v>>=λ aa=>assign t env v>>=λ aa=>((do
     let x ← eval i' env
     dp i'.pos
     let x ← eh i' env x
     let _ ← runOwn (.compStart (.ListComp elt [⟨t,i,[],0⟩,⟨t',i',cs,0⟩] scope pos) 1 (← holding [x] (iB x)) acc env) env
     pure ())>>=λ aa=>qP (.compLoop (.ListComp elt [⟨t,i,[],0⟩,⟨t',i',cs,0⟩] scope pos) 0 it acc env))):=by
 rw[X.RB]
 refine bc λ aa=>bc λ r=>?_
 cases r with
 |none=>rfl
 |some v=>
  refine bc λ aa=>bc λ aa=>?_
  simp only[zt]
  rfl
theorem LU{c:ST P ct}{elt:SE P ct}(cc:c.ch=true)(ce:elt.ch=true){A:bn}{env:Env}{D:au}{p:Nat}:
  Piece P ct A env D p (λ σ K=>c.run σ λ b aI=>aY b (sG elt p aI K) (K aI)) (kW c.bA env (eval c.bA env)>>=λ ok=>if ok=true then X.ww elt.bA env (.ref D) else pure ()):=λ F hA he O G ρ σ s K R hp h=>by
 subst hA he
 exact X.cM (X.mono (c.ok cc F G ρ σ s _ O R h) λ b s₁ z=>z.u λ dW c8 aI fQ fu dS bH=>match b,bH with
  |true,bH=>X.mono (r3 ce F rfl rfl O dW c8 aI s₁ K dS (fu.get hp) bH) λ aa aa z=>PT.up fQ fu z
  |false,bH=>X.ret ⟨dW,c8,aI,fQ,fu,dS,bH⟩)
theorem LV{t t':TG P ct}{i:aB}{i' elt:SE P ct}{scope:qN}{pos:c9}(tc:t'.ch=true)(ci:i'.ch=true)(ce:elt.ch=true)(hs:∀env x,eh i'.bA env x=pure x){A:bn}{env:Env}{D:au}{p:Nat}:
  Piece P ct A env D p (λ σ K=>i'.run σ λ v aI=>I2 v aI.mem (JZ t'.lD v λ ik=>∃N,lp t'.set (sG elt p) N ik aI K)) (do
     let x ← eval i'.bA env
     dp i'.bA.pos
     let x ← eh i'.bA env x
     let _ ← runOwn (.compStart (.ListComp elt.bA [⟨t.bA,i,[],0⟩,⟨t'.bA,i'.bA,[],0⟩] scope pos) 1 (← holding [x] (iB x)) (.ref D) env) env
     pure ()):=λ F hA he O G ρ σ s K R hp h=>by
 subst hA he
 refine X.cM (X.mono (i'.ok ci F G ρ σ s _ O R h) λ u s₁ z=>z.u λ dW c8 v aI fQ fu dS va bH=>X.at_ (X.cM (X.XX (hs _ _) (X.cM (X.holds (X.any (c7 (r8 O dS va bH) (λ w bp z=>z.elim λ I z=>z.elim λ ik z=>z.1▸z.2.h.elim λ N cW=>?_) λ aa aa z=>z)))))))
 have z:=z.2
 have hl:dP P.j (aE P.prog P.w) F.A (.compLoop (.ListComp elt.bA [⟨t.bA,i,[],0⟩,⟨t'.bA,i'.bA,[],0⟩] scope pos) 1 (.ref I) (.ref D) F.env) (λ r s'=>match r with | .ok _=>PT F ct.aS G ρ K s' | .error _=>False) bp:=yR X.Wk tc (r3 ce) O N bp ⟨dW,c8,aI,ik,fQ,fu,z.R,fu.get hp,z.L,z.i,z.n,cW⟩
 unfold runOwn
 exact X.cM (X.raises (X.runs rfl (X.compStart rfl (X.eu hl λ r s' z=>match r,z with
   | .ok f,z=>X.ret z
   | .error e,z=>z) (X.any (wQ z.i (X.eu hl λ r s' z=>match r,z with
   | .ok f,z=>X.ret z
   | .error e,z=>z))))))
end
section
variable{P:cC}{ct:Ct}
structure CL(P:cC)(ct:Ct) where
 elt:aB
 mS:TG P ct
 ifs:ae aB
 rest:ae i9
 body:Nat->JO
 ch:aC
 ok:ch=true->∀(A:bn) (env:Env) (D:au) (p:Nat) (i:aB) (scope:qN) (pos:c9) (it:ak),∃pc,Piece P ct A env D p (body p) pc/\∃ip,m7 (.ListComp elt (⟨mS.bA,i,ifs,0⟩::rest) scope pos) 0 it (.ref D) env=(dp ip>>=λ aa=>gN it>>=λ r=>match r with
   |none=>pure (.done .next)
   |some v=>dy mS.bA it v>>=λ aa=>assign mS.bA env v>>=λ aa=>(pc>>=λ aa=>qP (.compLoop (.ListComp elt (⟨mS.bA,i,ifs,0⟩::rest) scope pos) 0 it (.ref D) env)))
 bab:Nat->AS->aq (ae (e6×AS)):=λ aa aa=>none
 KJ:l8 P->∀p,Ab (bab p) (λ σ K=>body p σ λ b8=>K () b8) (λ(_:e6) (_:e6)=>True):=by nofun
def ES(elt:SE P ct)(p:Nat)(s:AS):aq (ae (e6×AS)):=bO (elt.ab s) λ t s=>ob (gW s.mem p) λ o=>ob (oLst o) λ vs=>nB (bB vs.1.length 1000) (af [((),s.put p (.lst (vs.1++[t])))])
noncomputable abbrev UT:e6->e6->Prop:=λ aa aa=>True
theorem yV{elt:SE P ct}(fo:l8 P){p:Nat}:Ab (ES elt p) (λ σ K=>sG elt p σ λ b8=>K () b8) UT:=λ s outs h σ gs=>(elt.cO fo).bind (C:=λ v aI K=>pJ aI.mem p λ o=>match o with
  | .lst xs=>cK (bB xs.length 1000000) (K () (aI.put p (.lst (xs++[v]))))
  |_=>False) h gs λ t s l h v σ gv gs=>ob.u h λ o ho h=>ob.u h λ vs aa h=>nB.u h λ hl h=>(gs.mem.at ho).elim λ o' m1=>aD (show GO σ.mem (.lst vs.1) o' from vs.2▸m1.2) λ us z=>
   D2.one (a:=()) (σ:=σ.put p (.lst (us++[v]))) h trivial ⟨gs.loc,gs.mem.set (o:= .lst vs.1) (vs.2▸ho) rfl ⟨_,rfl,z.2.snoc gv⟩ (.inl rfl)⟩ λ K k=>dI m1.1 (z.1.symm▸cK.i (c6 (aG (aV z.2.len) (aG (aQ hl) (by decide)))) k)
def cl1(t:TG P ct)(elt:SE P ct):CL P ct where
 elt:=elt.bA
 mS:=t
 ifs:=[]
 rest:=[]
 body:=λ p=>sG elt p
 ch:=elt.ch
 ok:=λ c A env D p i scope pos it=>⟨_,r3 c,_,X.aae⟩
 bab:=λ p s=>ES elt p s
 KJ:=λ fo p=>yV fo
noncomputable def T3(t:TG P ct)(elt:SE P ct)(c:ST P ct):CL P ct where
 elt:=elt.bA
 mS:=t
 ifs:=[c.bA]
 rest:=[]
 body:=λ p σ K=>c.run σ λ b aI=>aY b (sG elt p aI K) (K aI)
 ch:=c.ch&&elt.ch
 ok:=λ h A env D p i scope pos it=>⟨_,LU (aF h).1 (aF h).2,_,Rz⟩
noncomputable def GG{set:AV->St->(St->Prop)->Prop}(st:(t:TV)->(s:AS)->aq {s':AS // yB set t s s'})(b:AS->aq (ae (e6×AS))):Nat->El->AS->aq (ae (e6×AS))
 |0,_,_=>none
 |n+1,ik,s=>ob (Kr ik s.mem) λ r=>match r with
  |none=>af [((),s)]
  |some x=>ob (st x.1 s) λ s'=>bO (b s'.1) λ aa s=>GG st b n x.2 s
theorem wn{set:AV->St->(St->Prop)->Prop}{st:(t:TV)->(s:AS)->aq {s':AS // yB set t s s'}}{ba:AS->aq (ae (e6×AS))}{b:JO}(hb:Ab ba (λ σ K=>b σ λ b8=>K () b8) (λ(_:e6) (_:e6)=>True)):
  ∀(n:Nat) (ik:El) (x:IK),W4 ik x->Ab (GG st ba n ik) (λ σ K=>lp set b n x σ λ b8=>K () b8) (λ(_:e6) (_:e6)=>True)
 |0,_,_,_=>λ aa aa h=>nomatch h
 |n+1,ik,x,g=>λ s outs h σ gs=>ob.u h λ r e h=>(Gj e g gs.mem).elim λ r' z=>match r,z.1,h with
  |none,gr,h=>D2.one (a:=()) h trivial gs λ K w=>z.2 _ ((show r'=none from gr)▸w)
  |some y,gr,h=>aD gr λ q gq=>ob.u h λ s' aa h=>(s'.2 q.1 σ gq.2.1 gs).elim λ b8 k'=>
   (hb.bind (C:=λ aa aW K=>lp set b n q.2 aW λ b8=>K () b8) h k'.1 λ f bp l₂ cW a aW ga oq=>wn hb n y.2 q.2 gq.2.2 bp l₂ cW aW oq).eq λ K w=>z.2 _ (gq.1.symm▸k'.2 _ w)
def cl2(t:TG P ct)(elt:SE P ct)(t':TG P ct)(i':SE P ct):CL P ct where
 elt:=elt.bA
 mS:=t
 ifs:=[]
 rest:=[⟨t'.bA,i'.bA,[],0⟩]
 body:=λ p σ K=>i'.run σ λ v aI=>I2 v aI.mem (JZ t'.lD v λ ik=>∃N,lp t'.set (sG elt p) N ik aI K)
 bab:=λ p s=>bO (i'.ab s) λ v s=>ob (aIt t'.lD v s) λ ik=>GG t'.st (ES elt p) 12 ik.1 s
 KJ:=λ fo p s outs h σ gs=>(i'.cO fo).bind (C:=λ v aI K=>I2 v aI.mem (JZ t'.lD v λ ik=>∃N,lp t'.set (sG elt p) N ik aI λ b8=>K () b8)) h gs λ v s l h a σ ga gs=>ob.u h λ ik aa h=>(ik.2 a σ ga gs).elim λ x k=>
  (wn (yV fo) 12 ik.1 x k.1 _ _ h _ gs).eq λ K w=>k.2 _ ⟨12,w⟩
 ch:=vG 3 i'.bA&&(t'.ch&&(i'.ch&&elt.ch))
 ok:=λ h A env D p i scope pos it=>have d:=(xt (aF h).1).1; have h:=(aF h).2; ⟨_,LV (aF h).1 (aF (aF h).2).1 (aF (aF h).2).2 d,_,NS⟩
def EN(B:xN)(e:SE P ct)(c:CL P (B.ct ct))(σ:St)(K:Nat->St->Prop):Prop:=
 e.run σ λ v aI=>I2 v aI.mem (JZ c.mS.lD v λ ik=>∃N,lp c.mS.set (c.body aI.mem.length) N ik ⟨sM aI.loc B.src,aI.mem++[.lst []]⟩ λ aW=>K aI.mem.length ⟨aI.loc,aW.mem⟩)
theorem wu{B:xN}(hb:B.ok ct=true){e:SE P ct}(ce:e.ch=true){c:CL P (B.ct ct)}(cc:c.ch=true)(ctg:c.mS.ch=true)(hs:∀env x,eh e.bA env x=pure x)
  {F:Fd} {G:BM} {ρ:ae au} {σ:St} {s:ar} {K:Nat->St->Prop} {pos:c9} {use:aq (ak->im e6)} {Q:ak->ar->Prop} (O:gO P ct F) (R:RF F ct.aS G ρ σ s) (h:EN B e c σ K)
  (acb:∀G' ρ' b8 s' D C m p,dG G G'->Ext ρ ρ'->RF F ct.aS G' ρ' b8 s'->ρ'[p]?=af D->K p b8->Loose F G' ρ' s' C->s'.heap.Ns C m->X.z0 P.j (aE P.prog P.w) F.A use Q (.ref D) C s'):
  WP P F.A (rM (.ListComp c.elt (⟨c.mS.bA,e.bA,c.ifs,0⟩::c.rest) B.scope pos) B.scope F.env (firstIterPos (⟨c.mS.bA,e.bA,c.ifs,0⟩::c.rest) pos) (newList []) (firstAsync (⟨c.mS.bA,e.bA,c.ifs,0⟩::c.rest)) (firstIter (⟨c.mS.bA,e.bA,c.ifs,0⟩::c.rest) F.env) use) Q s:=by
 obtain⟨b1,b2,b3,b4,b5,b6⟩:=yI hb
 refine X.comprehension (cl:=kI F.env B.scope.names []) (g:=⟨c.mS.bA,e.bA,c.ifs,0⟩) (gs:=c.rest) rfl (hs _) (wm λ x hx hf=>?_) b1 b5 ?_
 ·obtain⟨d,hd⟩:=O.cells x.1 (b6 x hx hf); exact⟨d,hd⟩
 refine X.mono (e.ok ce F G ρ σ s _ O R h) λ u s₁ z=>z.u λ dW c8 v aI fQ fu dS va bH=>X.any (c7 (r8 O dS va bH) (λ w bp z=>z.elim λ I z=>z.elim λ ik z=>z.1▸z.2.h.elim λ N cW=>?_) λ aa aa z=>z)
 obtain⟨hI,k₂,ad0,gP,Lo,it,nm,_⟩:=z.2
 refine X.any (cP ?_ (by show(0:Nat)<=gA; omega))
 have lI:=gP.new (ao:= .lst []) (s':={bp with heap:=bp.heap.push {cls:= .type "list",data:= .seq ([]:ae ak).toArray}}) gP.K0 (aN _ rfl) ⟨#[],⟨_,rfl⟩,bJ.nil⟩ (λ b o e=>aA _ e) ⟨rfl,rfl,rfl⟩
 have hD:(c8++[bp.heap.objs.size])[aI.mem.length]?=af bp.heap.objs.size:=by rw[← gP.rm.len]; simp
 obtain⟨oI,hoI⟩:=Lo.al
 have hID:I≠bp.heap.objs.size:=dO (b9 hoI)
 refine X.any (wpAny_newFunctionEnv b4 (λ y hy=>by simp at hy) (λ nQ SA SC=>?_) b1)
 have hC:(bp.heap.push {cls:= .type "list",data:= .seq ([]:ae ak).toArray}:Heap).get? (bp.heap.push {cls:= .type "list",data:= .seq ([]:ae ak).toArray}:Heap).objs.size=none:=lI.K0
 have YK:∀b o,(bp.heap.push {cls:= .type "list",data:= .seq ([]:ae ak).toArray}:Heap).get? b=af o->nQ.get? b=af o:=λ b o e=>
  SC.extBut b o (dO (b9 e)) (aA _ e)
 have kk:∀b o,bp.heap.get? b=af o->nQ.get? b=af o:=λ b o e=>YK b o (aA _ e)
 have XS:s₁.heap.get? bp.heap.objs.size=none:=by
  cases e:s₁.heap.get? bp.heap.objs.size with
  |none=>rfl
  |some o=>exact bt (b9 (k₂ _ _ e)) (fA _)
 obtain⟨O',pW⟩:=IB hb (s'':={bp with heap:=nQ,toks:=bp.toks+([]:ae (bI×ak)).length}) O dS (Ext.snoc _ _) lI (λ b o e=>aA _ (k₂ b o e)) ad0 (λ a ha=>by
  rcases fS.mp ha with ha|ha
  ·exact .inl ha
  ·simp at ha; subst ha; exact .inr XS) hC SA YK ⟨rfl,rfl,rfl⟩
 generalize hCe:(bp.heap.push {cls:= .type "list",data:= .seq ([]:ae ak).toArray}:Heap).objs.size=C at *
 have hCI:I≠C:=λ e=>by
  have:=aA {cls:= .type "list",data:= .seq ([]:ae ak).toArray} hoI
  rw[e,hC] at this; cases this
 have W_:Loose (pr F B C s₁ c8 dW) dW (c8++[bp.heap.objs.size]) {bp with heap:=nQ,toks:=bp.toks+([]:ae (bI×ak)).length} I:=by
  refine⟨λ hm=>?_,Lo.G,hI,hCI,λ y hc=>Lo.c y (rY _ [] (λ aa aa q=>by cases q) y I hc),⟨oI,kk _ _ hoI⟩⟩
  rcases fS.mp hm with hm|hm
  ·exact Lo.ρ hm
  ·simp at hm; exact hID hm
 have SI:Im dW (c8++[bp.heap.objs.size]) nQ I ik:=it.up (dG.refl _) (Ext.snoc _ _) λ o e=>kk _ _ e
 obtain⟨pc,pk,ip,ht⟩:=c.ok cc F.A (pr F B C s₁ c8 dW).env bp.heap.objs.size aI.mem.length e.bA B.scope pos (.ref I)
 have fin:=yR (F:=pr F B C s₁ c8 dW) (pos:=pos) (G₀:=dW) (gL:=c8++[bp.heap.objs.size]) ht ctg pk O' N _ ⟨dW,c8++[bp.heap.objs.size],_,ik,dG.refl _,Ext.refl _,pW,hD,W_,SI,nm,cW⟩
 have last:∀s',PT (pr F B C s₁ c8 dW) (B.ct ct).aS dW (c8++[bp.heap.objs.size]) (λ aW=>K aI.mem.length ⟨aI.loc,aW.mem⟩) s'->X.z0 P.j (aE P.prog P.w) F.A use Q (.ref bp.heap.objs.size) C s':=λ s' z=>by
   obtain⟨G',ρ',b8,g',x',R',hk⟩:=z
   have hC1:s₁.heap.get? C=none:=by
    cases e:s₁.heap.get? C with
    |none=>rfl
    |some o=>have:=aA {cls:= .type "list",data:= .seq ([]:ae ak).toArray} (k₂ _ _ e); rw[hC] at this; cases this
   have abo:=KM O dS hC1 R' (λ b o aa e=>e) ⟨rfl,rfl,rfl⟩
   obtain⟨m,hm⟩:=R'.ns
   obtain⟨om,esm,epm,hom,_⟩:=id hm
   refine acb G' ρ' _ s' _ C m _ (fQ.trans g') (fu.trans ((Ext.snoc _ _).trans x')) abo (x'.get hD) hk ⟨R'.Bq,R'.lG,dS.dead hC1,λ e=>?_,λ y e=>?_,⟨om,hom⟩⟩ hm
   ·obtain⟨mL,oL,esL,epL,JY,_⟩:=dS.ns; rw[← e,hC1] at JY; cases JY
   ·obtain⟨_,_,⟨vv,oo,hoo,_⟩,_⟩:=dS.cell y C e; rw[hC1] at hoo; cases hoo
 refine X.compStart rfl (X.eu fin λ r s' z=>?_) (X.any (wQ (F:=pr F B C s₁ c8 dW) SI (X.eu fin λ r s' z=>?_)))
 ·cases r with
  |ok f=>exact last s' z
  |error e=>exact z
 ·cases r with
  |ok f=>exact last s' z
  |error e=>exact z
noncomputable def AZ(l:ae TV):ae (aq Nat)->aq (ae TV)
 |none::r=>ob (AZ l r) λ x=>af (.ex .undef::x)
 |some i::r=>ob (RG l i) λ v=>ob (AZ l r) λ x=>af (v::x)
 |[]=>af []
theorem t6{l:ae TV}{us:ae AV}(g:dH l us):∀{src:ae (aq Nat)} {x:ae TV},AZ l src=af x->dH x (sM us src)
 |[],_,h=>am h▸rfl
 |none::r,_,h=>ob.u h λ x e h=>am h▸ .cons rfl (t6 g e)
 |some i::r,_,h=>ob.u h λ v e1 h=>ob.u h λ x e h=>(t8 g e1).elim λ u z=>am h▸ .cons (z.2.1.symm▸z.2.2) (t6 g e)
def GI(B:xN){P:cC}{ct:Ct}(c:CL P (B.ct ct))(v:TV)(s:AS):aq (ae (TV×AS)):=ob (aIt c.mS.lD v s) λ ik=>ob (AZ s.loc B.src) λ l=>bO (GG c.mS.st (c.bab s.mem.length) 12 ik.1 ⟨l,s.mem++[.lst []]⟩) λ aa bp=>af [(.ex (.own s.mem.length),⟨s.loc,bp.mem⟩)]
theorem B9{B:xN}{c:CL P (B.ct ct)}(fo:l8 P){v:TV}{s:AS}{outs:ae (TV×AS)}{a:AV}{σ:St}(h:GI B c v s=af outs)(ga:GV v a)(gs:GS s σ):
  D2 (λ K=>I2 a σ.mem (JZ c.mS.lD a λ ik=>∃N,lp c.mS.set (c.body σ.mem.length) N ik ⟨sM σ.loc B.src,σ.mem++[.lst []]⟩ λ aW=>K (.own σ.mem.length) ⟨σ.loc,aW.mem⟩)) GV outs:=by
 refine ob.u h λ ik aa h=>ob.u h λ l hl h=>(ik.2 a σ ga gs).elim λ x k=>ob.u h λ lo e h=>?_
 have hn:s.mem.length=σ.mem.length:=gs.mem.len
 have g1:GS ⟨l,s.mem++[.lst []]⟩ ⟨sM σ.loc B.src,σ.mem++[.lst []]⟩:=⟨t6 gs.loc hl,gs.mem.app (o:= .lst []) ⟨[],rfl,rfl⟩ rfl⟩
 rw[hn] at e
 exact D2.eq (D2.bind (C:=λ aa aW K=>K (.own σ.mem.length) ⟨σ.loc,aW.mem⟩) (wn (c.KJ fo σ.mem.length) 12 ik.1 x k.1 _ _ e _ g1) h λ aa bp l' h' aa aW aa oq=>D2.one (a:=AV.own σ.mem.length) (σ:=⟨σ.loc,aW.mem⟩) h' (ah AV.own hn.symm) ⟨gs.loc,oq.mem⟩ λ K w=>w) λ K w=>k.2 _ ⟨12,w⟩
def N8(B:xN)(e:SE P ct)(c:CL P (B.ct ct))(pos:c9):SE P ct where
 bA:= .ListComp c.elt (⟨c.mS.bA,e.bA,c.ifs,0⟩::c.rest) B.scope pos
 run:=λ σ K=>EN B e c σ λ p b8=>K (.own p) b8
 ch:=vG 3 e.bA&&(B.ok ct&&(e.ch&&(c.ch&&c.mS.ch)))
 star:=λ aa aa=>rfl
 ok:=λ h F G ρ σ s Kv O R hr=>by
  have q0:=aF h; have q1:=aF q0.2; have q2:=aF q1.2; have q3:=aF q2.2
  rw[eval_ListComp]
  exact wu q1.1 q2.1 q3.1 q3.2 (xt q0.1).1 O R hr λ G' ρ' b8 s' D C m p g x R' hp hk Lo hm=>⟨m,hm,λ h' sb=>PE.up g x (PE.here (R'.side (s':={s' with heap:=h'}) (λ a o n e=>sb.extBut a o n e) Lo.ρ Lo.G Lo.h Lo.L Lo.c ⟨rfl,rfl,rfl⟩) (VR.Jf hp) hk)⟩
 ab:=Kt e.ab (GI B c)
 cO:=λ fo=>nN fo λ v s outs a σ h ga gs=>B9 fo h ga gs
noncomputable def ZO(sc:qN)(x:bI)(p' pos:c9):aC:=p'.line==pos.line&&!(sc.names.any λ n=>n.1==x&&(n.2== .local||n.2== .cell))
theorem Q8{sc:qN}{x:bI}{p' pos:c9}{a:aB}{gs:ae i9}{l:Nat}{env:Env}(h:ZO sc x p' pos=true)(hk:env.scope.kind= .function)(hl:env.kindOf x=af .local):oH (.ListComp a gs sc pos) (af (.Name x p')) l env=pure true:=by
 unfold oH
 show pure (env.blockKind== .function&&env.kindOf x==af .local&&p'.line==pos.line&&!(sc.names.any λ n=>n.1==x&&(n.2== .local||n.2== .cell)))=_
 rw[show env.blockKind= .function by unfold Env.blockKind; rw[hk]; rfl,hl,(aF h).1,(aF h).2]
 rfl
def Nf(i:Nat)(x:bI)(p':c9)(B:xN)(e:SE P ct)(c:CL P (B.ct ct))(pos p:c9):SX P ct where
 bA:= .Assign [.Name x p'] (.ListComp c.elt (⟨c.mS.bA,e.bA,c.ifs,0⟩::c.rest) B.scope pos) p
 run:=λ σ K=>EN B e c σ λ q b8=>K .d8 (b8.set i (.own q))
 ch:=ZO B.scope x p' pos&&(vG 3 e.bA&&((pd ct i x&&(ct.names.lookup x==af .local))&&(B.ok ct&&(e.ch&&(c.ch&&c.mS.ch)))))
 ok:=λ h F G ρ σ s Kv O R hr=>by
  obtain⟨hw,h⟩:=aF h
  obtain⟨hz,h⟩:=aF h
  have hs:=(xt hz).1
  obtain⟨h0,h⟩:=aF h
  obtain⟨h1,h⟩:=aF h
  obtain⟨h2,h⟩:=aF h
  obtain⟨h3,h4⟩:=aF h
  have hl:F.env.kindOf x=af .local:=by unfold Env.kindOf; rw[O.names]; exact a_.mp (aF h0).2
  rw[exec_Assign_Name_used _ _ _ _ (Q8 hw O.kind hl)]
  refine X.at_ (X.cM ?_)
  unfold evalThenUse
  refine X.cM ?_
  refine wu (use:=af (assign (.Name x p') F.env)) h1 h2 h3 h4 hs O R hr λ G' ρ' b8 s' D C m q g x' R' hp hk Lo hm=>?_
  show cL _ _ _ (assign (.Name x p') F.env (.ref D)) _ s'
  refine X.any (xW (qL (F:=F.now G' ρ' s') (O.now R') R'.now (aF h0).1 (VR.Jf hp) λ s'' Bi=>?_))
  obtain⟨om,esm,epm,hom,rest⟩:=hm
  have hC:=Bi.keep C om Lo.ρ ⟨Lo.L,λ aa y aa=>Lo.c y⟩ hom
  refine⟨m,⟨om,esm,epm,hC,rest⟩,λ h' sb=>?_⟩
  have lI:=R'.then Bi
  exact X.ret (X.ret (PF.d8 g x' (lI.side (s':={s'' with heap:=h'}) (λ a o n e=>sb.extBut a o n e) Lo.ρ Lo.G Lo.h Lo.L Lo.c ⟨rfl,rfl,rfl⟩) hk))
 ab:=Kt e.ab λ v s=>bO (GI B c v s) λ t s=>af [(.d8,s.set i t)]
 cO:=λ fo=>nN (g:=GF) (f:=λ v s=>bO (GI B c v s) λ t s=>af [(.d8,s.set i t)]) (C:=λ a σ (K:Fl->St->Prop)=>I2 a σ.mem (JZ c.mS.lD a λ ik=>∃N,lp c.mS.set (c.body σ.mem.length) N ik ⟨sM σ.loc B.src,σ.mem++[.lst []]⟩ λ aW=>K .d8 (St.set ⟨σ.loc,aW.mem⟩ i (.own σ.mem.length)))) fo λ v s outs a σ h ga gs=>ob.u h λ l e h=>
  D2.bind (C:=λ b b8 K=>K Fl.d8 (b8.set i b)) (B9 fo e ga gs) h λ t s l h b b8 gb qc=>D2.one (g:=GF) (b:=AF.d8) (a:=Fl.d8) (σ:=b8.set i b) h rfl ⟨qc.loc.set i gb,qc.mem⟩ λ K z=>z
end
section
variable{P:cC}{ct:Ct}
def O9(P:cC)(ct:Ct)(x:bI)(f:ak):aC:=Cw ct x&&(P.blt.contains x&&(bootBuiltins x==af f))
theorem Ax{F:Fd}{G:BM}{ρ:ae au}{σ:St}{s:ar}{x:bI}{f:ak}{q:c9}{Q:ak->ar->Prop}(O:gO P ct F)(R:RF F ct.aS G ρ σ s)(c:O9 P ct x f=true)(h:Q f s):aH (aE P.prog P.w) F.A (eval (.Name x q) F.env) Q dw s:=
 have c1:=Cx (aF c).1
 have c2:=aF (aF c).2
 have b:=P.yJ x c2.1
 R.A1 O λ B p l mg mb h1 h2 h3=>Name_function_global O.kind ((ah (·.lookup x) O.names).trans c1.1) (loadGlobal_builtin (O.glob.symm▸h2.g.keeps h3) (mg_none_of h1 h2.g b.1) (O.blt.symm▸h2.b.keeps h3) ((h2.builtins x b.2).trans (a_.mp c2.2)) h) c1.2
theorem oY{M:iy}{f:ak}(hf:∀a,f≠ .ref a)(h:Heap)(_:True):∃k,(k=Bb\/k=xL\/k=tt)/\Looks M h (keeperOf f) k:=
 ⟨.machine, .inr (.inl rfl),λ A Q E s k q=>by
  cases f
  case ref=>exact bt rfl (hf _)
  all_goals exact aw q⟩
noncomputable abbrev x6:=ae AV->St->(AV->St->Prop)->Prop
structure Bf(P:cC)(ct:Ct) where
 nm:bI
 f:ak
 l5:x6
 jj:aC
 hf:∀a,f≠ .ref a
 snd:∀F G ρ σ s Kv dx vs,(jj=true->P.j=true)->gO P ct F->RF F ct.aS G ρ σ s->bJ G ρ dx vs->l5 dx σ Kv->WP P F.A (call f vs []) (PE F ct.aS G ρ Kv) s
 lf:ae TV->AS->aq (ae (TV×AS)):=λ aa aa=>none
 lk:∀ts s outs vs σ,lf ts s=af outs->dH ts vs->GS s σ->D2 (l5 vs σ) GV outs:=by nofun
def xB(B:Bf P ct)(q:c9)(as:SL P ct)(p:c9):SE P ct where
 bA:= .Call (.Name B.nm q) as.bA [] p
 run:=λ σ K=>as.run σ λ vs aI=>B.l5 vs aI K
 ab:=λ s=>bO (as.ab s) B.lf
 cO:=λ fo s outs h σ gs=>(as.cO fo).bind h gs λ ts s l h vs σ gv gs=>B.lk ts s l vs σ h gv gs
 ch:=(!B.jj||P.j)&&(O9 P ct B.nm B.f&&as.ch)
 star:=λ aa aa=>rfl
 ok:=λ c F G ρ σ s Kv O R h=>have c1:=aF (aF c).2
  X.p4 (X.any (Ax O R c1.1 (X.uo (Pm:=λ aa=>True) (as.plain _ _) (oY B.hf) (X.mono (as.ok c1.2 F G ρ σ s _ _ O R h) λ vs s₁ z=>z.u λ dW c8 dx aI fQ fu dS va bH=>
   ⟨trivial,X.mono (B.snd F dW c8 aI s₁ Kv dx vs (λ e=>(ah (λ b=>(!b||P.j)=true) e).mp (aF c).1) O dS va bH) λ aa aa=>PE.up fQ fu⟩))))
def Vr(vs:ae AV)(K:Prop):Prop:=match vs with
 |[]=>K
 |_=>False
def Hu(vs:ae AV)(K:AV->Prop):Prop:=match vs with
 |[v]=>K v
 |_=>False
def Zl(vs:ae AV)(K:AV->AV->Prop):Prop:=match vs with
 |[v,w]=>K v w
 |_=>False
def Zm(vs:ae AV)(K:AV->AV->AV->Prop):Prop:=match vs with
 |[v,w,x]=>K v w x
 |_=>False
theorem Vr.u{vs:ae AV}{K:Prop}{Q:ae AV->Prop}(h:Vr vs K)(k:K->Q []):Q vs:=by
 rcases vs with _|_
 ·exact k h
 ·exact h.elim
theorem Hu.u{vs:ae AV}{K:AV->Prop}{Q:ae AV->Prop}(h:Hu vs K)(k:∀v,K v->Q [v]):Q vs:=by
 rcases vs with _|⟨v,_|_⟩
 ·exact h.elim
 ·exact k v h
 ·exact h.elim
theorem Zl.u{vs:ae AV}{K:AV->AV->Prop}{Q:ae AV->Prop}(h:Zl vs K)(k:∀v w,K v w->Q [v,w]):Q vs:=by
 rcases vs with _|⟨v,_|⟨w,_|_⟩⟩
 case cons.cons.nil=>exact k v w h
 all_goals exact h.elim
theorem Zm.u{vs:ae AV}{K:AV->AV->AV->Prop}{Q:ae AV->Prop}(h:Zm vs K)(k:∀v w x,K v w x->Q [v,w,x]):Q vs:=by
 rcases vs with _|⟨v,_|⟨w,_|⟨x,_|_⟩⟩⟩
 case cons.cons.cons.nil=>exact k v w x h
 all_goals exact h.elim
section
variable{F:Fd}{G:BM}{ρ:ae au}{σ:St}{s:ar}{a b c:AV}{v:ak}{vs:ae ak}{dx:ae AV}{Kv:AV->St->Prop}{Q:ae ak->Prop}
theorem bJ.a0{K:Prop}(h:Vr dx K)(va:bJ G ρ dx vs)(k:K->Q []):Q vs:=Vr.u (Q:=λ dx=>bJ G ρ dx vs->Q vs) h (λ h va=>va.u0 (k h)) va
theorem bJ.a1{K:AV->Prop}(h:Hu dx K)(va:bJ G ρ dx vs)(k:∀a u,K a->VR G ρ a u->Q [u]):Q vs:=Hu.u (Q:=λ dx=>bJ G ρ dx vs->Q vs) h (λ a h va=>va.u1 λ u vu=>k a u h vu) va
theorem bJ.a2{K:AV->AV->Prop}(h:Zl dx K)(va:bJ G ρ dx vs)(k:∀a b u v,K a b->VR G ρ a u->VR G ρ b v->Q [u,v]):Q vs:=Zl.u (Q:=λ dx=>bJ G ρ dx vs->Q vs) h (λ a b h va=>va.u2 λ u v vu vv=>k a b u v h vu vv) va
theorem bJ.a3{K:AV->AV->AV->Prop}(h:Zm dx K)(va:bJ G ρ dx vs)(k:∀a b c u v w,K a b c->VR G ρ a u->VR G ρ b v->VR G ρ c w->Q [u,v,w]):Q vs:=Zm.u (Q:=λ dx=>bJ G ρ dx vs->Q vs) h (λ a b c h va=>va.u3 λ u v w vu vv vw=>k a b c u v w h vu vv vw) va
theorem VR.Pa{bs:ae b7}{Q:ak->Prop}(h:VR G ρ (.j9 bs) v)(k:∀t,Q (.bytes bs.toArray t)):Q v:=aD h λ t e=>(show v=_ from e)▸k t
def De(o:AO)(K:ae b7->Prop):Prop:=match o with
 | .ba bs=>K bs
 |_=>False
theorem De.u{o:AO}{K:ae b7->Prop}{Q:AO->Prop}(h:De o K)(k:∀bs,K bs->Q (.ba bs)):Q o:=by
 rcases o with _|_|_|_|_|_|bs|_
 case ba=>exact k bs h
 all_goals exact h.elim
def acQ(o:AO)(K:Nat->Prop):Prop:=match o with
 | .ba b=>K b.length
 | .lst xs=>K xs.length
 | .il xs=>K xs.length
 |_=>False
def YV(a:AV)(m:ae AO)(K:Nat->Prop):Prop:=match a with
 | .j9 b=>K b.length
 | .lst xs=>K xs.length
 | .row xs=>K xs.length
 | .own p=>pJ m p λ o=>acQ o K
 |_=>False
def Nm:x6:=λ vs σ K=>Hu vs λ a=>YV a σ.mem λ n=>need (n < 4611686018427387904) (K (.int n) σ)
theorem Uv{n:Nat}(h:n < 4611686018427387904):(n:Int) < 2 ^ 63:=dr (mY.mpr h) (by decide)
theorem Qk{l:au}{o:Obj}{vs:bD ak}{n:Nat}(R:RF F ct.aS G ρ σ s)(ho:s.heap.get? l=af o)(hl:i3 o vs)(hn:vs.toList.length=n)(h:need (n < 4611686018427387904) (Kv (.int n) σ)):
  aH (aE P.prog P.w) F.A (call (.builtin "len") [.ref l]) (PE F ct.aS G ρ Kv) dw s:=
 h.u λ hb h=>have e:vs.size=n:=bh.symm.trans hn; call_len_list ⟨o,ho,hl.is⟩ (e.symm▸Uv hb) (e.symm▸PE.here (R.toks _) VR.mH h)
theorem Ql(R:RF F ct.aS G ρ σ s)(va:VR G ρ a v)(h:YV a σ.mem λ n=>need (n < 4611686018427387904) (Kv (.int n) σ)):aH (aE P.prog P.w) F.A (call (.builtin "len") [v]) (PE F ct.aS G ρ Kv) dw s:=by
 rcases a with _|_|_|_|bs|p|_|_|_|_|_|xs|ns|_|_|_|_|_
 case j9=>exact need.u h λ hb h=>va.Pa (Q:=λ v=>aH (aE P.prog P.w) F.A (call (.builtin "len") [v]) (PE F ct.aS G ρ Kv) dw s) λ t=>Ve (fw (cT▸hb) (by decide)) (PE.here (R.toks _) (cT.symm▸VR.mH) h)
 case own=>
  exact pJ.u h λ o e h=>R.own va e (Q:=λ v=>aH (aE P.prog P.w) F.A (call (.builtin "len") [v]) (PE F ct.aS G ρ Kv) dw s) λ adr ob jN h1 q=>by
   rcases o with xs|ns|_|_|_|_|bs|_
   case lst=>exact aD q λ us q=>Qk R h1 q.1 q.2.length h
   case il=>exact aD q λ us q=>Qk R h1 q.1 q.2.length h
   case ba=>exact need.u h λ hb h=>Vd ((show ob=nO bs from q)▸h1) (fw hb (by decide)) (PE.here (R.toks _) VR.mH h)
   all_goals exact h.elim
 case lst=>exact va.lstU (Q:=λ v=>aH (aE P.prog P.w) F.A (call (.builtin "len") [v]) (PE F ct.aS G ρ Kv) dw s) λ l o us hg hl hv=>Qk R (R.rm.kg _ _ hg) hl hv.length h
 case row=>exact va.Dr (Q:=λ v=>aH (aE P.prog P.w) F.A (call (.builtin "len") [v]) (PE F ct.aS G ρ Kv) dw s) λ l o us hg hl hv=>Qk R (R.rm.kg _ _ hg) hl hv.length h
 all_goals exact h.elim
end
theorem Fb{n m:Nat}{k:Prop}(e:n=m)(h:bB m 1000000=true)(z:k):need (n < 4611686018427387904) k:=T7 (aU (e▸aQ h) (by decide)) z
abbrev abk(t:TV)(s:AS)(u:TV):Prop:=∀a σ,GV t a->GS s σ->∃v,GV u v/\∀K:AV->St->Prop,K v σ->Nm [a] σ K
def ady(t:TV)(s:AS):aq {u:TV // abk t s u}:=
 oe (ob (Wa t) λ n=>bE (bB n.1 1000000) λ hn=>af ⟨.rg 0 n.1,λ a σ g gs=>aD (n.2▸g:GV (.JT n.1) a) λ bs e=>e.1.symm▸⟨.int bs.length,⟨_,rfl,ku _,pO.mpr e.2⟩,λ K k=>T7 (aU (aG e.2 (aQ hn)) (by decide)) k⟩⟩)
 (oe (ob (Wc t) λ r=>bE (bB r.1.length 1000000) λ hn=>af ⟨.ex (.int r.1.length),λ a σ g gs=>(lC g r.2).symm▸⟨_,rfl,λ K k=>Fb rfl hn k⟩⟩)
 (oe (ob (nU t) λ p=>jS (gW s.mem p.1) λ o ho=>ob (oLst o) λ vs=>bE (bB vs.1.length 1000000) λ hn=>af ⟨.ex (.int vs.1.length),λ a σ g gs=>(lC g p.2).symm▸(gs.vs ho vs.2 λ aa z=>z).elim λ us z=>
  ⟨.int us.length,ah (λ n:Nat=>AV.int n) z.2.len,λ K k=>dI z.1 (Fb z.2.len hn k)⟩⟩)
 (ob (toAV t) λ v=>ob (Vg v.1) λ l=>bE (bB l.1.length 1000000) λ hn=>af ⟨.ex (.int l.1.length),λ a σ g gs=>((v.2 _ g).trans l.2).symm▸⟨_,rfl,λ K k=>Fb rfl hn k⟩⟩)))
theorem jS.u{α β:Type}{x:aq α}{f:(a:α)->x=af a->aq β}{y:β}{Q:Prop}(h:jS x f=af y)(k:∀a e,f a e=af y->Q):Q:=by
 rcases x with _|a
 ·exact cm h
 ·exact k a rfl h
theorem oe.v{α:Type}{x y:aq α}{r:α}{Q:Prop}(h:oe x y=af r)(k1:x=af r->Q)(k2:y=af r->Q):Q:=by
 rcases x with _|x
 ·exact k2 h
 ·exact k1 h
noncomputable def ze:(ts:ae TV)->aq {t:TV // ts=[t]}
 |[t]=>af ⟨t,rfl⟩
 |_=>none
noncomputable def RC:(ts:ae TV)->aq {t:TV×TV // ts=[t.1,t.2]}
 |[t,u]=>af ⟨(t,u),rfl⟩
 |_=>none
theorem dH.v1{t:TV}{ts:ae TV}{vs:ae AV}{Q:ae AV->Prop}(e:ts=[t])(g:dH ts vs)(k:∀v,GV t v->Q [v]):Q vs:=(e▸g:dH [t] vs).u1 k
theorem dH.v2{t u:TV}{ts:ae TV}{vs:ae AV}{Q:ae AV->Prop}(e:ts=[t,u])(g:dH ts vs)(k:∀v w,GV t v->GV u w->Q [v,w]):Q vs:=(e▸g:dH [t,u] vs).u2 k
def lf1(f:TV->AS->aq (ae (TV×AS)))(ts:ae TV)(s:AS):aq (ae (TV×AS)):=ob (ze ts) λ t=>f t.1 s
theorem Fc{f:TV->AS->aq (ae (TV×AS))}{l5:x6}(k:∀t s outs a σ,f t s=af outs->GV t a->GS s σ->D2 (l5 [a] σ) GV outs)(ts:ae TV)(s:AS)(outs:ae (TV×AS))(vs:ae AV)(σ:St)(h:lf1 f ts s=af outs)(g:dH ts vs)(gs:GS s σ):D2 (l5 vs σ) GV outs:=
 ob.u h λ t aa h=>dH.v1 t.2 g (Q:=λ vs=>D2 (l5 vs σ) GV outs) λ a ga=>k _ s outs a σ h ga gs
def Xv:Bf P ct where
 nm:="len"
 f:= .builtin "len"
 l5:=Nm
 jj:=false
 hf:=λ aa e=>nomatch e
 snd:=λ F G ρ σ s Kv dx vs aa O R va h=>va.a1 (Q:=λ vs=>WP P F.A (call (.builtin "len") vs []) (PE F ct.aS G ρ Kv) s) h λ a u h vu=>X.any (Ql R vu h)
 lf:=lf1 λ t s=>ob (ady t s) λ u=>af [(u.1,s)]
 lk:=Fc λ t s outs a σ h ga gs=>ob.u h λ u aa h=>(u.2 a σ ga gs).elim λ v k=>D2.one h k.1 gs k.2
def aas(q:c9)(as:SL P ct)(p:c9):SE P ct:=xB Xv q as p
def QF(a:AV)(K:aC->Prop):Prop:=match a with
 | .bool b=>K b
 |_=>False
theorem QF.u{a:AV}{K:aC->Prop}{Q:AV->Prop}(h:QF a K)(k:∀b,K b->Q (.bool b)):Q a:=by
 rcases a with _|_|b|_|_|_|_|_|_|_|_|_|_|_|_|_|_|_
 case bool=>exact k b h
 all_goals exact h.elim
def V0:x6:=λ vs σ K=>Hu vs λ a=>QF a λ b=>K (.int (aY b 1 0)) σ
theorem TY(b:aC):(0:Int)<=aY b 1 0/\(aY b 1 0:Int)<=1:=by cases b<;>decide
theorem UV{b:aC}:(if b then 1 else 0:Int)=aY b 1 0:=by cases b<;>rfl
def Xu:Bf P ct where
 nm:="int"
 f:= .type "int"
 l5:=V0
 jj:=false
 hf:=λ aa e=>nomatch e
 snd:=λ F G ρ σ s Kv dx vs aa O R va h=>va.a1 (Q:=λ vs=>WP P F.A (call (.type "int") vs []) (PE F ct.aS G ρ Kv) s) h λ a u h vu=>QF.u (Q:=λ a=>VR G ρ a u->WP P F.A (call (.type "int") [u] []) (PE F ct.aS G ρ Kv) s) h (λ b h va=>va.Si (Q:=λ u=>WP P F.A (call (.type "int") [u] []) (PE F ct.aS G ρ Kv) s)
  (X.any (call_int_bool (PE.here (R.toks _) (UV▸VR.mH) h)))) vu
 lf:=lf1 λ t s=>ob (Z2 t) λ u=>af [(.rg 0 1,s)]
 lk:=Fc λ t s outs a σ h ga gs=>ob.u h λ u aa h=>(u.2 a ga).elim λ b e=>e.symm▸D2.one (a:=AV.int (aY b 1 0)) h ⟨_,rfl,TY b⟩ gs λ K k=>k
def aar(q:c9)(as:SL P ct)(p:c9):SE P ct:=xB Xu q as p
def Nl:x6:=λ vs σ K=>Hu vs λ a=>lL a λ p=>pJ σ.mem p λ o=>De o λ b=>need (b.length < 1000000) (K (.j9 b) σ)
noncomputable def O2:Bf P ct where
 nm:="bytes"
 f:= .type "bytes"
 l5:=Nl
 jj:=false
 hf:=λ aa e=>nomatch e
 snd:=λ F G ρ σ s Kv dx vs aa O R va h=>va.a1 (Q:=λ vs=>WP P F.A (call (.type "bytes") vs []) (PE F ct.aS G ρ Kv) s) h λ a u h vu=>lL.u (Q:=λ a=>VR G ρ a u->WP P F.A (call (.type "bytes") [u] []) (PE F ct.aS G ρ Kv) s) h (λ p h va=>h.u λ o e h=>R.own va e (Q:=λ u=>WP P F.A (call (.type "bytes") [u] []) (PE F ct.aS G ρ Kv) s) λ adr ob aa h1 q=>
  De.u (Q:=λ o=>OR G ρ o ob->WP P F.A (call (.type "bytes") [.ref adr] []) (PE F ct.aS G ρ Kv) s) h (λ b h q=>h.u λ hb h=>X.any (yc ((show ob=nO b from q)▸h1) (eZ (b_ hb (dZ.symm▸(by decide:1000000 < 16777216)))) (PE.here (R.toks _) VR.Sj h))) q) vu
def N7(q:c9)(as:SL P ct)(p:c9):SE P ct:=xB O2 q as p
def ZP:x6:=λ vs σ K=>Vr vs (K (.own σ.mem.length) ⟨σ.loc,σ.mem++[.ba []]⟩)
theorem PE.Fo{F:Fd}{aS:ae bI}{G:BM}{ρ:ae au}{σ:St}{s s':ar}{Kv:AV->St->Prop}{a:au}{o:Obj}{ao:AO}(R:RF F aS G ρ σ s)(ha:s.heap.get? a=none)(he:s'.heap.get? a=af o)(q:OR G (ρ++[a]) ao o)
  (k:∀b o,s.heap.get? b=af o->s'.heap.get? b=af o) (z:s'.gens=s.gens/\s'.gens=s.gens/\s'.os=s.os) (h:Kv (.own σ.mem.length) ⟨σ.loc,σ.mem++[ao]⟩):PE F aS G ρ Kv (.ref a) s':=
 PE.up (dG.refl _) (Ext.snoc _ _) (PE.here (R.new ha he q k z) (VR.Jf R.DF) h)
noncomputable def abx:Bf P ct where
 nm:="bytearray"
 f:= .type "bytearray"
 l5:=ZP
 jj:=true
 hf:=λ aa e=>nomatch e
 snd:=λ F G ρ σ s Kv dx vs hj O R va h=>va.a0 (Q:=λ vs=>WP P F.A (call (.type "bytearray") vs []) (PE F ct.aS G ρ Kv) s) h λ h=>X.jt (hj rfl) (X.EF λ h' e1 e2=>PE.Fo (ao:= .ba []) (s':={s with heap:=h'}) R R.K0 e1 rfl e2 ⟨rfl,rfl,rfl⟩ h)
def xBa(q:c9)(as:SL P ct)(p:c9):SE P ct:=xB abx q as p
end
section
variable{P:cC}{ct:Ct}
noncomputable abbrev wb:=AV->St->(AV->St->Prop)->Prop
noncomputable abbrev OD:=AV->AV->St->(AV->St->Prop)->Prop
def one(f:wb):x6:=λ vs σ K=>Hu vs λ a=>f a σ K
def two(f:OD):x6:=λ vs σ K=>Zl vs λ a b=>f a b σ K
abbrev OE(P:cC)(ct:Ct)(f:ak)(jj:aC)(l5:wb):Prop:=∀F G ρ σ s Kv a v,(jj=true->P.j=true)->gO P ct F->RF F ct.aS G ρ σ s->VR G ρ a v->l5 a σ Kv->WP P F.A (call f [v] []) (PE F ct.aS G ρ Kv) s
abbrev abp(P:cC)(ct:Ct)(f:ak)(jj:aC)(l5:OD):Prop:=∀F G ρ σ s Kv a b v w,(jj=true->P.j=true)->gO P ct F->RF F ct.aS G ρ σ s->VR G ρ a v->VR G ρ b w->l5 a b σ Kv->WP P F.A (call f [v,w] []) (PE F ct.aS G ρ Kv) s
def Sd(x:bI)(f:ak)(l5:wb)(jj:aC)(hf:∀a,f≠ .ref a)(snd:OE P ct f jj l5)(lf:TV->AS->aq (ae (TV×AS)):=λ aa aa=>none)(lk:∀t s outs a σ,lf t s=af outs->GV t a->GS s σ->D2 (l5 a σ) GV outs:=by nofun):Bf P ct:=
 {nm:=x,f:=f,l5:=one l5,jj:=jj,hf:=hf,snd:=λ F G ρ σ s Kv dx vs hj O R va h=>va.a1 (Q:=λ vs=>WP P F.A (call f vs []) (PE F ct.aS G ρ Kv) s) h λ a u h vu=>snd F G ρ σ s Kv a u hj O R vu h,lf:=lf1 lf,lk:=Fc lk}
def lf2(f:TV->TV->AS->aq (ae (TV×AS)))(ts:ae TV)(s:AS):aq (ae (TV×AS)):=ob (RC ts) λ t=>f t.1.1 t.1.2 s
theorem Vf{f:TV->TV->AS->aq (ae (TV×AS))}{l5:x6}(k:∀t u s outs a b σ,f t u s=af outs->GV t a->GV u b->GS s σ->D2 (l5 [a,b] σ) GV outs)(ts:ae TV)(s:AS)(outs:ae (TV×AS))(vs:ae AV)(σ:St)(h:lf2 f ts s=af outs)(g:dH ts vs)(gs:GS s σ):D2 (l5 vs σ) GV outs:=
 ob.u h λ t aa h=>dH.v2 t.2 g (Q:=λ vs=>D2 (l5 vs σ) GV outs) λ a b ga gb=>k _ _ s outs a b σ h ga gb gs
def bf2(x:bI)(f:ak)(l5:OD)(jj:aC)(hf:∀a,f≠ .ref a)(snd:abp P ct f jj l5)(lf:TV->TV->AS->aq (ae (TV×AS)):=λ aa aa aa=>none)(lk:∀t u s outs a b σ,lf t u s=af outs->GV t a->GV u b->GS s σ->D2 (l5 a b σ) GV outs:=by nofun):Bf P ct:=
 {nm:=x,f:=f,l5:=two l5,jj:=jj,hf:=hf,snd:=λ F G ρ σ s Kv dx vs hj O R va h=>va.a2 (Q:=λ vs=>WP P F.A (call f vs []) (PE F ct.aS G ρ Kv) s) h λ a b u v h vu vv=>snd F G ρ σ s Kv a b u v hj O R vu vv h,lf:=lf2 lf,lk:=Vf lk}
noncomputable def Fj:ae Int->Int
 |[]=>0
 |[a]=>a
 |a::r=>aY (decide (a < Fj r)) (Fj r) a
noncomputable def C5:ae Int->Int
 |[]=>0
 |[a]=>a
 |a::r=>aY (decide (C5 r < a)) (C5 r) a
theorem yE{c m x:Int}{l:ae Int}{p:Prop}[fF p]{le:Int->Int->Prop}(z:x∈l/\∀a∈l,le a x)(e:m=aY (decide p) x c)(h1:p->le c x)(h2:¬p->le x c)(rf:le c c)(tr:∀{a b c},le a b->le b c->le a c):m∈c::l/\∀a∈c::l,le a m:=
 (n6 p).elim (λ q=>(e.trans (ah (aY · x c) (cz q))).symm▸⟨.tail _ z.1,aJ.mpr ⟨h1 q,z.2⟩⟩)
  λ q=>(e.trans (ah (aY · x c) (dj q))).symm▸⟨.head _,aJ.mpr ⟨rf,λ a ha=>tr (z.2 a ha) (h2 q)⟩⟩
theorem za:∀(l:ae Int),l≠[]->Fj l∈l/\∀a∈l,a<=Fj l
 |[]=>λ h=>bt rfl h
 |[a]=>λ aa=>⟨.head _,λ x h=>dX (be.mp h)⟩
 |a::b::r=>λ aa=>yE (le:=(·<=·)) (p:=a < Fj (b::r)) (za (b::r) (lP _ _)) rfl eY gZ.mp (dT _) aO
theorem tW:∀(l:ae Int),l≠[]->C5 l∈l/\∀a∈l,C5 l<=a
 |[]=>λ h=>bt rfl h
 |[a]=>λ aa=>⟨.head _,λ x h=>dX (be.mp h).symm⟩
 |a::b::r=>λ aa=>yE (le:=λ x y=>y<=x) (p:=C5 (b::r) < a) (tW (b::r) (lP _ _)) rfl eY gZ.mp (dT _) λ h k=>aO k h
theorem cx.Hr{ns:ae Int}{vs:ae ak}(h:IntsAre vs ns):cx ns vs:=by
 induction h with
 |nil=>rfl
 |cons a t _ ih=>exact⟨t,_,rfl,ih⟩
def YB(o:AO)(K:ae Int->Prop):Prop:=match o with
 | .lst xs=>sV (intsOf xs) K
 | .il ns=>K ns
 |_=>False
def lY(a:AV)(mem:ae AO)(K:ae Int->Prop):Prop:=match a with
 | .own p=>pJ mem p λ o=>YB o K
 | .row ns=>K ns
 | .lst xs=>sV (intsOf xs) K
 |_=>False
section
variable{F:Fd}{G:BM}{ρ:ae au}{σ:St}{s:ar}{a:AV}{v:ak}{Kv:AV->St->Prop}
theorem lY.u{aS:ae bI}{K:ae Int->Prop}{Q:ak->Prop}(h:lY a σ.mem K)(R:RF F aS G ρ σ s)(va:VR G ρ a v)(k:∀l o vs ns,s.heap.get? l=af o->i3 o vs->cx ns vs.toList->K ns->Q (.ref l)):Q v:=by
 rcases a with _|_|_|_|_|p|_|_|_|_|_|xs|ns|_|_|_|_|_
 case own=>
  exact pJ.u h λ o e h=>R.own va e (Q:=Q) λ adr ob aa h1 q=>by
   rcases o with xs|ns|_|_|_|_|_|_
   case lst=>exact aD q λ us q=>sV.u h λ ns e h=>k adr ob us ns h1 q.1 (ot e q.2) h
   case il=>exact aD q λ us q=>k adr ob us ns h1 q.1 q.2 h
   all_goals exact h.elim
 case lst=>exact va.lstU (Q:=Q) λ l o us hg hl hv=>sV.u h λ ns e h=>k l o us ns (R.rm.kg _ _ hg) hl (ot e hv) h
 case row=>exact va.Dr (Q:=Q) λ l o us hg hl hv=>k l o us ns (R.rm.kg _ _ hg) hl hv h
 all_goals exact h.elim
end
def HL:wb:=λ a σ K=>kj a λ i=>K (.int i.natAbs) σ
def Ra:OD:=λ a b σ K=>kj a λ i=>kj b λ j=>K (.int (aY (decide (j > i)) j i)) σ
noncomputable def ON(q:Int×Int):Int×Int:=aY (decide (0<=q.1)) q (aY (decide (q.2<=0)) (-q.2,-q.1) (0,aY (decide (-q.1<=q.2)) q.2 (-q.1)))
theorem Gl{q:Int×Int}{i:Int}(h0:q.1<=i)(h1:i<=q.2):(ON q).1<=i.natAbs/\(i.natAbs:Int)<=(ON q).2:=by
 unfold ON
 by_cases a:0<=q.1
 ·rw[cz a,mh (aO a h0)]; exact⟨h0,h1⟩
 ·rw[dj a]
  by_cases b:q.2<=0
  ·rw[cz b,nC (aO h1 b)]; exact⟨nA h1,nA h0⟩
  ·rw[dj b]
   refine⟨ku _,?_⟩
   have m:(i.natAbs:Int)<=q.2\/(i.natAbs:Int)<=-q.1:=(Int.le_total 0 i).imp (λ h=>aO (dX (mh h)) h1) λ h=>aO (dX (nC h)) (nA h0)
   by_cases c: -q.1<=q.2
   ·rw[cz c]; exact m.elim id λ h=>aO h c
   ·rw[dj c]; exact m.elim (λ h=>aO h (eY (Int.not_le.mp c))) id
theorem TH(i:Int):(if i < 0 then -i else i)=(i.natAbs:Int):=(n6 (i < 0)).elim (λ h=>(dq h).trans (nC (eY h)).symm) λ h=>(bC h).trans (mh (gZ.mp h)).symm
def Xt:Bf P ct:=Sd "abs" (.builtin "abs") HL false (λ aa e=>nomatch e) (λ F G ρ σ s Kv a v aa O R va h=>h.u (Q:=λ v=>WP P F.A (call (.builtin "abs") [v] []) (PE F ct.aS G ρ Kv) s) va λ i t h=>X.any (PyProof.Rows.call_abs_int λ u tk=>PE.here (R.toks _) ((TH i).symm▸VR.mH) h))
 (lf:=λ t s=>ob (mj t) λ q=>af [(SQ (ON q),s)]) (lk:=λ t s outs a σ h ga gs=>ob.u h λ q e h=>mj.u (Q:=λ a=>D2 (HL a σ) GV outs) e ga λ i i0 i1=>D2.one (a:=AV.int i.natAbs) h (tX (Gl i0 i1).1 (Gl i0 i1).2) gs λ K k=>k)
def adS(q:c9)(as:SL P ct)(p:c9):SE P ct:=xB Xt q as p
theorem VR.acY{G:BM}{ρ:ae au}{i j:Int}{t u:kx}:VR G ρ (.int (aY (decide (j > i)) j i)) (if j > i then .int j u else .int i t):=by
 by_cases c:j > i
 ·rw[dq c,cz c]; exact VR.mH
 ·rw[bC c,dj c]; exact VR.mH
def TS:Bf P ct:=bf2 "max" (.builtin "max") Ra false (λ aa e=>nomatch e) (λ F G ρ σ s Kv a b v w aa O R va vb h=>h.u (Q:=λ v=>WP P F.A (call (.builtin "max") [v,w] []) (PE F ct.aS G ρ Kv) s) va λ i t h=>h.u (Q:=λ w=>WP P F.A (call (.builtin "max") [.int i t,w] []) (PE F ct.aS G ρ Kv) s) vb λ j u h=>
  X.any (max_two_ints O.room.2.2 λ h' tk hk=>PE.here (R.grow (s':={s with heap:=h',toks:=tk}) hk ⟨rfl,rfl,rfl⟩) VR.acY h))
 (lf:=λ t u s=>ob (lz t) λ i=>ob (lz u) λ j=>af [(.ex (.int (aY (decide (j.1 > i.1)) j.1 i.1)),s)]) (lk:=λ t u s outs a b σ h ga gb gs=>ob.u h λ i aa h=>ob.u h λ j aa h=>(lC ga i.2).symm▸(lC gb j.2).symm▸D2.one (a:=AV.int (aY (decide (j.1 > i.1)) j.1 i.1)) h rfl gs λ K k=>k)
def aat(q:c9)(as:SL P ct)(p:c9):SE P ct:=xB TS q as p
def HM:wb:=λ a σ K=>lY a σ.mem λ ns=>aY ns.isEmpty False (K (.int (Fj ns)) σ)
def Rb:wb:=λ a σ K=>lY a σ.mem λ ns=>aY ns.isEmpty False (K (.int (C5 ns)) σ)
theorem MR:∀{ns:ae Int} {vs:ae ak},cx ns vs->∃l:ae (Int×kx),vs=l.map (λ p=> .int p.1 p.2)/\l.map (·.1)=ns
 |[],_=>λ h=>h.u0 (Q:=λ vs=>∃l:ae (Int×kx),vs=l.map (λ p=> .int p.1 p.2)/\l.map (·.1)=[]) ⟨[],rfl,rfl⟩
 |i::r,_=>λ h=>h.uc (Q:=λ vs=>∃l:ae (Int×kx),vs=l.map (λ p=> .int p.1 p.2)/\l.map (·.1)=i::r) λ t vs h=>(MR h).elim λ l z=>⟨(i,t)::l,ah (eD i t::·) z.1,ah (i::·) z.2⟩
theorem CO{h:Heap}{l:au}{o:Obj}{us:bD ak}{ns:ae Int}(ho:h.get? l=af o)(hl:i3 o us)(hi:cx ns us.toList):∃xs:bD (Int×kx),h.IsList l (intItems xs)/\xs.toList.map (·.1)=ns:=
 (MR hi).elim λ ps z=>⟨ps.toArray,(uP.mp (z.1.trans (Array.toList_map).symm):us=intItems ps.toArray)▸⟨o,ho,hl.is⟩,z.2⟩
theorem Gz{xs:bD (Int×kx)}{ns:ae Int}(e:xs.toList.map (·.1)=ns){b:Nat}(hb:b<=xs.size - 1){m:Int}(hm:m∈ns){le:Int->Int->Prop}(abv:∀{x y},le x y->le y x->x=y)(h1:∀x∈ns,le x m)(h2:∀j,j<=xs.size - 1->le (numAt xs j) (numAt xs b)):numAt xs b=m:=
 have sz:ns.length=xs.size:=e▸(bL _).trans bh
 (mem_getD hm).elim λ j hj=>have lt:j < xs.size:=sz▸hj.1; abv (h1 _ (((numAt_eq xs b).trans (ah (List.getD · b 0) e)).symm▸getD_mem (sz.symm▸aU hb (Nat.sub_lt (aU (oE j) lt) Nat.one_pos))))
  ((((numAt_eq xs j).trans (ah (List.getD · j 0) e)).trans hj.2)▸h2 j (Nat.le_sub_one_of_lt lt))
theorem neE{ns:ae Int}{k:Prop}(h:aY ns.isEmpty False k):ns≠[]/\k:=by
 rcases ns with _|⟨n,r⟩
 ·exact h.elim
 ·exact⟨lP _ _,h⟩
theorem Gu{xs:bD (Int×kx)}{ns:ae Int}(e:xs.toList.map (·.1)=ns)(h:ns≠[]):0 < xs.size:=bh▸(bL (f:=λ p:Int×kx=>p.1))▸e▸fW.mpr h
noncomputable def SF(xs:ae AV):aq {ns:ae Int // intsOf xs=af ns}:=match h:intsOf xs with
 |some ns=>af ⟨ns,rfl⟩
 |none=>none
def LZ(a:AV)(m:ae AO):aq {ns:ae Int // ∀K:ae Int->Prop,K ns->lY a m K}:=match a with
 | .own p=>jS (bM m p) λ o ho=>match o,ho with
  | .lst xs,ho=>ob (SF xs) λ ns=>af ⟨ns.1,λ K z=>dI ho (qF ns.2 z)⟩
  | .il ns,ho=>af ⟨ns,λ K z=>dI ho z⟩
  |_,_=>none
 | .row ns=>af ⟨ns,λ K z=>z⟩
 | .lst xs=>ob (SF xs) λ ns=>af ⟨ns.1,λ K z=>qF ns.2 z⟩
 |_=>none
def Un(a:AV)(σ:St):aq {r:AV×St // tF (HM a σ) r}:=ob (LZ a σ.mem) λ ns=>bE (!ns.1.isEmpty) λ h=>af ⟨(.int (Fj ns.1),σ),λ K z=>ns.2 _ ((ah (aY · False _) (nb h)).mpr z)⟩
def TU:Bf P ct:=Sd "max" (.builtin "max") HM false (λ aa e=>nomatch e) (λ F G ρ σ s Kv a v aa O R va h=>h.u (Q:=λ v=>WP P F.A (call (.builtin "max") [v] []) (PE F ct.aS G ρ Kv) s) R va λ l o us ns ho hl hi h=>have h:=neE h
  (CO ho hl hi).elim λ xs e=>X.any (max_intList O.room.2.2 e.1 (Gu e.2 h.1) λ v h' tk hv hk=>(intItems_at hv).elim λ t ev=>ev.symm▸have b:=argBest_gt (numAt xs) (xs.size - 1); have m:=za ns h.1
   (Gz (le:=(·<=·)) e.2 b.1 m.1 e_ m.2 b.2).symm▸PE.here (R.grow (s':={s with heap:=h',toks:=tk}) hk ⟨rfl,rfl,rfl⟩) VR.mH h.2)) (lf:=XY Un) (lk:=Aa)
def aau(q:c9)(as:SL P ct)(p:c9):SE P ct:=xB TU q as p
def TW:Bf P ct:=Sd "min" (.builtin "min") Rb false (λ aa e=>nomatch e) (λ F G ρ σ s Kv a v aa O R va h=>h.u (Q:=λ v=>WP P F.A (call (.builtin "min") [v] []) (PE F ct.aS G ρ Kv) s) R va λ l o us ns ho hl hi h=>have h:=neE h
  (CO ho hl hi).elim λ xs e=>X.any (min_intList O.room.2.2 e.1 (Gu e.2 h.1) λ v h' tk hv hk=>(intItems_at hv).elim λ t ev=>ev.symm▸have b:=argBest_lt (numAt xs) (xs.size - 1); have m:=tW ns h.1
   (Gz (le:=λ x y=>y<=x) e.2 b.1 m.1 (λ h k=>e_ k h) m.2 b.2).symm▸PE.here (R.grow (s':={s with heap:=h',toks:=tk}) hk ⟨rfl,rfl,rfl⟩) VR.mH h.2))
def Tp(q:c9)(as:SL P ct)(p:c9):SE P ct:=xB TW q as p
noncomputable def Ny(i:Int):aC:=decide (-1073741824 < i/\i < 1073741824)
theorem zv{i:Int}(h:Ny i=true): -1073741824 < i/\i < 1073741824:=bg h
theorem PE.fzn{F:Fd}{aS:ae bI}{G:BM}{ρ:ae au}{σ:St}{s s':ar}{Kv:AV->St->Prop}{a:au}{o:Obj}{av:AV}(R:RF F aS G ρ σ s)(ha:s.heap.get? a=none)(he:s'.heap.get? a=af o)(k:∀b o,s.heap.get? b=af o->s'.heap.get? b=af o)(z:s'.gens=s.gens/\s'.gens=s.gens/\s'.os=s.os)
  (va:dG G (G.with a o)->(G.with a o) a=af o->VR (G.with a o) ρ av (.ref a)) (h:Kv av σ):PE F aS G ρ Kv (.ref a) s':=
 have R':=R.freeze ha he k z
 PE.up R'.2 (Ext.refl _) (PE.here R'.1 (va R'.2 (BM.zC _ _ _)) h)
theorem tY{F:Fd}{aS:ae bI}{G:BM}{ρ:ae au}{σ:St}{s:ar}{Kv:AV->St->Prop}{a b c:Int}{t u v:kx}{tk:Nat}(R:RF F aS G ρ σ s)(h:Kv (.j_ a b c) σ):
  PE F aS G ρ Kv (.ref s.heap.objs.size) {s with heap:=s.heap.push {cls:= .type "range",data:= .fields #[.int a t, .int b u, .int c v]},toks:=tk}:=
 PE.fzn (s':={s with heap:=s.heap.push {cls:= .type "range",data:= .fields #[.int a t, .int b u, .int c v]},toks:=tk}) (av:= .j_ a b c) R R.K0 (aN _ rfl) (λ b o e=>aA _ e) ⟨rfl,rfl,rfl⟩ (λ aa e=>i8 _ ⟨t,u,v,rfl,e⟩) h
def aby:Bf P ct:=Sd "range" (.type "range") (λ a σ K=>kj a λ n=>K (.j_ 0 n 1) σ) false (λ aa e=>nomatch e) (λ F G ρ σ s Kv a v aa O R va h=>h.u (Q:=λ v=>WP P F.A (call (.type "range") [v] []) (PE F ct.aS G ρ Kv) s) va λ n t h=>X.any (call_range_1 (tY R h)))
 (lf:=λ t s=>ob (lz t) λ n=>af [(.ex (.j_ 0 n.1 1),s)]) (lk:=λ t s outs a σ h ga gs=>ob.u h λ n aa h=>(lC ga n.2).symm▸D2.one (a:=AV.j_ 0 n.1 1) h rfl gs λ K z=>z)
def Ia(q:c9)(as:SL P ct)(p:c9):SE P ct:=xB aby q as p
def abz:Bf P ct:=bf2 "range" (.type "range") (λ a b σ K=>kj a λ m=>kj b λ n=>K (.j_ m n 1) σ) false (λ aa e=>nomatch e) (λ F G ρ σ s Kv a b v w aa O R va vb h=>h.u (Q:=λ v=>WP P F.A (call (.type "range") [v,w] []) (PE F ct.aS G ρ Kv) s) va λ m t h=>h.u (Q:=λ w=>WP P F.A (call (.type "range") [.int m t,w] []) (PE F ct.aS G ρ Kv) s) vb λ n u h=>X.any (call_range_2 (tY R h)))
 (lf:=λ t u s=>ob (lz t) λ m=>ob (lz u) λ n=>af [(.ex (.j_ m.1 n.1 1),s)]) (lk:=λ t u s outs a b σ h ga gb gs=>ob.u h λ m aa h=>ob.u h λ n aa h=>(lC ga m.2).symm▸(lC gb n.2).symm▸D2.one (a:=AV.j_ m.1 n.1 1) h rfl gs λ K z=>z)
def RP(q:c9)(as:SL P ct)(p:c9):SE P ct:=xB abz q as p
def r3B(k:Int):aC:=Ny k&&(aY (decide (k=0)) false true)
def Tb:x6:=λ vs σ K=>Zm vs λ a b c=>kj a λ m=>kj b λ n=>kj c λ k=>cK (r3B k) (K (.j_ m n k) σ)
theorem VD{k:Int}(h:r3B k=true):k≠0/\Builtin.divisionGoesByPylong 0 k=Builtin.divisionGoesByPylong 0 k/\-1073741824 < k/\k < 1073741824:=⟨λ e=>ay ((ah (aY · false true) (cz e)).symm.trans (aF h).2),rfl,zv (aF h).1⟩
theorem VE{a k:Int}(h:r3B k=true):Builtin.divisionGoesByPylong a k=false:=oK (by have:=zv (aF h).1; omega)
noncomputable def We:(ts:ae TV)->aq {t:TV×TV×TV // ts=[t.1,t.2.1,t.2.2]}
 |[t,u,v]=>af ⟨(t,u,v),rfl⟩
 |_=>none
theorem dH.v3{t u w:TV}{ts:ae TV}{vs:ae AV}{Q:ae AV->Prop}(e:ts=[t,u,w])(g:dH ts vs)(k:∀a b c,GV t a->GV u b->GV w c->Q [a,b,c]):Q vs:=(e▸g:dH [t,u,w] vs).uc (Q:=Q) λ a r ga g=>g.u2 (Q:=λ r=>Q (a::r)) λ b c=>k a b c ga
def abA:Bf P ct where
 nm:="range"
 f:= .type "range"
 l5:=Tb
 jj:=false
 hf:=λ aa e=>nomatch e
 snd:=λ F G ρ σ s Kv dx vs aa O R va h=>va.a3 (Q:=λ vs=>WP P F.A (call (.type "range") vs []) (PE F ct.aS G ρ Kv) s) h λ a b c u v w h va vb vc=>h.u (Q:=λ u=>WP P F.A (call (.type "range") [u,v,w] []) (PE F ct.aS G ρ Kv) s) va λ m t h=>h.u (Q:=λ v=>WP P F.A (call (.type "range") [.int m t,v,w] []) (PE F ct.aS G ρ Kv) s) vb λ n t' h=>
  h.u (Q:=λ w=>WP P F.A (call (.type "range") [.int m t, .int n t',w] []) (PE F ct.aS G ρ Kv) s) vc λ k t'' h=>h.u λ hk h=>X.any (call_range_3 (VD hk).1 (tY R h) (.inl (VE hk)))
 lf:=λ ts s=>ob (We ts) λ t=>ob (lz t.1.1) λ m=>ob (lz t.1.2.1) λ n=>ob (lz t.1.2.2) λ k=>nB (r3B k.1) (af [(.ex (.j_ m.1 n.1 k.1),s)])
 lk:=λ ts s outs vs σ h g gs=>ob.u h λ t aa h=>ob.u h λ m aa h=>ob.u h λ n aa h=>ob.u h λ k aa h=>nB.u h λ hk h=>dH.v3 t.2 g (Q:=λ vs=>D2 (Tb vs σ) GV outs) λ a b c ga gb gc=>(lC ga m.2).symm▸(lC gb n.2).symm▸(lC gc k.2).symm▸D2.one (a:=AV.j_ m.1 n.1 k.1) h rfl gs λ K z=>cK.i hk z
def RQ(q:c9)(as:SL P ct)(p:c9):SE P ct:=xB abA q as p
noncomputable def QY(a c:Int):Nat->ae Int
 |0=>[]
 |n+1=>a::QY (a+c) c n
theorem zq(c:Int):∀(n:Nat) (a:Int) (vs:ae ak),vs.length=n->(∀(i:Nat) v,vs[i]?=af v->∃t,v= .int (a+i * c) t)->cx (QY a c n) vs
 |0,_,[]=>λ aa aa=>rfl
 |0,_,_::_=>λ h aa=>bt h (cy _)
 |_+1,_,[]=>λ h aa=>bt h.symm (cy _)
 |n+1,a,v::vs=>λ hl h=>(h 0 v rfl).elim λ t ht=>⟨t,vs,ah (·::vs) (ht.trans (ah (eD · t) ((ah (a+·) (Int.zero_mul c)).trans (Int.add_zero a)))),zq c n (a+c) vs (eL hl) λ i w hw=>(h (i+1) w hw).imp λ t' e=>e.trans (ah (eD · t')
   ((ah (a+·) ((Int.add_mul (i:Int) 1 c).trans ((ah ((i:Int) * c+·) (Int.one_mul c)).trans (Int.add_comm ..)))).trans (Int.add_assoc a c _).symm))⟩
def vL:wb:=λ a σ K=>match a with
 | .j_ a b c=>cK (Builtin.Range.small a b c&&bB (Builtin.Range.rangeSize a b c).toNat 1000) (K (.row (QY a c (Builtin.Range.rangeSize a b c).toNat)) σ)
 |a=>lY a σ.mem λ ns=>cK (bB ns.length 1000) (K (.row ns) σ)
theorem HI{F:Fd}{aS:ae bI}{G:BM}{ρ:ae au}{σ:St}{s:ar}{Kv:AV->St->Prop}{h':Heap}{tk:Nat}{xs:bD ak}{c':Nat}{ns:ae Int}(R:RF F aS G ρ σ s)(hk:∀b o,s.heap.get? b=af o->h'.get? b=af o)
  (he:h'.get? s.heap.objs.size=af {cls:= .type "list",dict:=none,data:= .seq xs c',slots:=#[]}) (hi:cx ns xs.toList) (h:Kv (.row ns) σ):PE F aS G ρ Kv (.ref s.heap.objs.size) {s with heap:=h',toks:=tk}:=
 PE.fzn (s':={s with heap:=h',toks:=tk}) (av:= .row ns) R R.K0 he hk ⟨rfl,rfl,rfl⟩ (λ aa e=>VR.Q2 e ⟨_,rfl⟩ hi) h
theorem tU{F:Fd}{G:BM}{ρ:ae au}{σ:St}{s:ar}{Kv:AV->St->Prop}{a:AV}{v:ak}(R:RF F ct.aS G ρ σ s)(va:VR G ρ a v)(h:lY a σ.mem λ ns=>cK (bB ns.length 1000) (Kv (.row ns) σ)):
  aH (aE P.prog P.w) F.A (call (.type "list") [v]) (PE F ct.aS G ρ Kv) dw s:=
 h.u (Q:=λ v=>aH (aE P.prog P.w) F.A (call (.type "list") [v]) (PE F ct.aS G ρ Kv) dw s) R va λ l o us ns ho hl hi h=>h.u λ hz h=>hl.is.2.elim λ n hd=>
  call_list_seq (hsz:=aG (aV (bh.symm.trans hi.length)) (aG (aQ hz) (dZ.symm▸(by decide:1000<=16777216)))) l (.inl rfl) ho hl.is.1 hd λ h' c' hk he=>HI (tk:=s.toks) R hk he hi h
def Ac(a:AV)(σ:St):aq {r:AV×St // tF (λ K=>lY a σ.mem λ ns=>cK (bB ns.length 1000) (K (.row ns) σ)) r}:=ob (LZ a σ.mem) λ ns=>bE (bB ns.1.length 1000) λ h=>af ⟨(.row ns.1,σ),λ K z=>ns.2 _ (cK.i h z)⟩
def Um(a:AV)(σ:St):aq {r:AV×St // tF (vL a σ) r}:=match a with
 | .j_ a b c=>bE (Builtin.Range.small a b c&&bB (Builtin.Range.rangeSize a b c).toNat 1000) λ h=>af ⟨(.row (QY a c (Builtin.Range.rangeSize a b c).toNat),σ),λ K z=>cK.i h z⟩
 | .own p=>Ac (.own p) σ
 | .row ns=>Ac (.row ns) σ
 | .lst xs=>Ac (.lst xs) σ
 |_=>none
noncomputable def acA(t:TV):aq {v:Int // ∀x,GV t x->x= .int v}:=match t with
 | .ex (.int i)=>af ⟨i,λ aa g=>g⟩
 | .nr v _ _=>af ⟨v,λ aa g=>g.1⟩
 |_=>none
theorem CN{i:Int}{x:AV}{r:ae AV}{l:ae Int}(e:x= .int i)(h:intsOf r=af l):intsOf (x::r)=af (i::l):=by
 subst e
 show(match intsOf r with|some l=>af (i::l)|none=>none)=_
 rw[h]
noncomputable def SG:(ts:ae TV)->aq {r:ae Int // ∀us,dH ts us->intsOf us=af r}
 |[]=>af ⟨[],λ us g=>g.u0 (Q:=λ us=>intsOf us=af []) rfl⟩
 |t::ts=>ob (acA t) λ v=>ob (SG ts) λ r=>af ⟨v.1::r.1,λ us g=>g.uc (Q:=λ us=>intsOf us=af (v.1::r.1)) λ u x g1 g2=>CN (v.2 _ g1) (r.2 _ g2)⟩
def SP(t:TV)(s:AS):aq (ae (TV×AS)):=ob (nU t) λ p=>jS (gW s.mem p.1) λ o ho=>ob (oLst o) λ vs=>ob (SG vs.1) λ r=>nB (bB r.1.length 1000) (af [(.ex (.row r.1),s)])
theorem Ml{t:TV}{s:AS}{outs:ae (TV×AS)}{a:AV}{σ:St}(h:SP t s=af outs)(ga:GV t a)(gs:GS s σ):D2 (vL a σ) GV outs:=
 ob.u h λ p aa h=>jS.u h λ o ho h=>ob.u h λ vs aa h=>ob.u h λ r aa h=>nB.u h λ hl h=>(lC ga p.2).symm▸(gs.vs ho vs.2 λ aa z=>z).elim λ us z=>D2.one (a:=AV.row r.1) h rfl gs λ K k=>dI z.1 (qF (r.2 us z.2) (cK.i hl k))
theorem Mm{F:Fd}{G:BM}{ρ:ae au}{σ:St}{s:ar}{Kv:AV->St->Prop}{a:AV}{v:ak}(O:gO P ct F)(R:RF F ct.aS G ρ σ s)(va:VR G ρ a v)(h:vL a σ Kv):aH (aE P.prog P.w) F.A (call (.type "list") [v]) (PE F ct.aS G ρ Kv) dw s:=by
 rcases a with _|_|_|_|_|p|_|_|_|_|_|xs|ns|_|_|⟨x,y,z⟩|_|_
 case j_=>
  exact cK.u h λ hb h=>aD va λ r w=>w.elim λ t w=>w.elim λ u w=>w.elim λ v w=>w.1.symm▸
   have hn:Builtin.Range.rangeSize x y z=((Builtin.Range.rangeSize x y z).toNat:Int):=(sx (sZ x y z)).symm
   call_list_range O.room.2.2 (R.rm.kg _ _ w.2) (aF hb).1 hn (aG (aQ (aF hb).2) (by decide)) λ h' tk afG c' hk he hi=>HI R hk he (zq z _ x _ (bh.trans hi.1) λ i v hv=>hi.2 i v (bP.symm.trans hv)) h
 case own=>exact tU R va h
 case lst=>exact tU R va h
 case row=>exact tU R va h
 all_goals exact h.elim
def TQ:Bf P ct:=Sd "list" (.type "list") vL false (λ aa e=>nomatch e) (λ F G ρ σ s Kv a v aa O R va h=>X.any (Mm O R va h))
 (lf:=λ t s=>oe (SP t s) (XY Um t s)) (lk:=λ t s outs a σ h ga gs=>oe.v h (λ h=>Ml h ga gs) λ h=>Aa _ _ _ _ _ h ga gs)
def Wx(q:c9)(as:SL P ct)(p:c9):SE P ct:=xB TQ q as p
end
namespace X
theorem Expr{J:aC}{prog:aK}{w:bw}{A:bn}{s:ar}{env:Env}{e:aB}{pos:c9}{Q:mA->ar->Prop}(hi:Bd env=false)(hs:oH e none pos.line env=pure false)
  (h:cL J (aE prog w) A (eval e env) (λ aa s'=>Q .next s') s):cL J (aE prog w) A (exec (.Expr e pos) env) Q s:=by
 rw[exec_Expr env e pos hi hs]
 exact at_ (cM (mono h λ v s' h'=>any (wpAny_dropValue h')))
end X
section
variable{P:cC}{ct:Ct}
noncomputable def Dx(e:SE P ct)(p:c9):SX P ct where
 bA:= .Expr e.bA p
 run:=λ σ K=>e.run σ λ aa aI=>K .d8 aI
 ch:=vG 2 e.bA&&e.ch
 ok:=λ c F G ρ σ s Kv O R h=>X.Expr (by unfold Bd; rw[O.kind]; rfl) (HT (aF c).1) (X.mono (e.ok (aF c).2 F G ρ σ s _ O R h) λ v s₁ z=>z.u λ G' ρ' a b8 g x R' va k=>PF.d8 g x R' k)
 ab:=Kt e.ab λ aa s=>af [(.d8,s)]
 cO:=λ fo=>nN fo λ t s outs a σ h ga gs=>am h▸D2.fk rfl gs λ K z=>z
structure Bm(P:cC)(ct:Ct) where
 name:bI
 idOf:AV->ae AO->aq cQ
 l5:cQ->AV->ae AV->St->(AV->St->Prop)->Prop
 jj:aC
 Y4:∀F G ρ σ s a u id pl (Q:ak×ae ak->ar->Prop),gO P ct F->RF F ct.aS G ρ σ s->VR G ρ a u->idOf a σ.mem=af id->Q (.builtin id,[u]) s->aH (aE P.prog P.w) F.A (fJ u name pl) Q dw s
 snd:∀F G ρ σ s Kv id a dx u vs,(jj=true->P.j=true)->gO P ct F->RF F ct.aS G ρ σ s->VR G ρ a u->bJ G ρ dx vs->l5 id a dx σ Kv->WP P F.A (call (.builtin id) (u::vs) []) (PE F ct.aS G ρ Kv) s
 idt:(t:TV)->(s:AS)->aq {id:cQ // ∀a σ,GV t a->GS s σ->idOf a σ.mem=af id}:=λ aa aa=>none
 lf:cQ->TV->ae TV->AS->aq (ae (TV×AS)):=λ aa aa aa aa=>none
 lk:∀id t ts s outs a vs σ,lf id t ts s=af outs->GV t a->dH ts vs->GS s σ->D2 (l5 id a vs σ) GV outs:=by nofun
noncomputable def xBm(B:Bm P ct)(o:SE P ct)(ap:c9)(as:SL P ct)(p:c9):SE P ct where
 bA:= .Call (.Attribute o.bA B.name ap) as.bA [] p
 ab:=λ s=>bO (o.ab s) λ t s=>ob (B.idt t s) λ id=>bO (as.ab s) λ ts s=>B.lf id.1 t ts s
 cO:=λ fo s outs h σ gs=>(o.cO fo).bind (C:=λ a aI K=>sV (B.idOf a aI.mem) λ id=>as.run aI λ vs aW=>B.l5 id a vs aW K) h gs λ t s l h a σ ga gs=>ob.u h λ id aa h=>
  D2.eq ((as.cO fo).bind (C:=λ vs aW K=>B.l5 id.1 a vs aW K) h gs λ ts s l h vs σ gv gs=>B.lk id.1 t ts s l a vs σ h ga gv gs) λ K k=>qF (id.2 a σ ga gs) k
 run:=λ σ K=>o.run σ λ a aI=>sV (B.idOf a aI.mem) λ id=>as.run aI λ vs aW=>B.l5 id a vs aW K
 ch:=mtB o.bA as.bA ap p&&((!B.jj||P.j)&&(o.ch&&as.ch))
 star:=λ aa aa=>rfl
 ok:=λ c F G ρ σ s Kv O R h=>have c1:=aF (aF c).2
  (Hk (aF c).1 B.name F.env (as.plain _ _)).elim λ pl he=>X.B4 he (X.mono (o.ok (aF c1.2).1 F G ρ σ s _ O R h) λ u s₁ z=>z.u λ dW c8 a aI fQ fu dS va bH=>bH.u λ id WN bH=>X.any (B.Y4 F dW c8 aI s₁ a u id pl _ O dS va WN
   (X.uo (Pm:=λ aa=>True) (as.plain _ _) (oY (f:= .builtin id) (λ aa e=>nomatch e)) (X.mono (as.ok (aF c1.2).2 F dW c8 aI s₁ _ _ O dS bH) λ vs bp z=>z.u λ jr g8 dx aW jk jw gP q9 cW=>
    ⟨trivial,X.mono (B.snd F jr g8 aW bp Kv id a dx u vs (λ e=>(ah (λ b=>(!b||P.j)=true) e).mp c1.1) O gP (va.up jk jw) q9 cW) λ aa aa=>PE.up (fQ.trans jk) (fu.trans jw)⟩))))
section
variable{F:Fd}{G:BM}{ρ:ae au}{σ:St}{s:ar}{p:Nat}{a:AV}{v:ak}{o:AO}{Kv:AV->St->Prop}{id:cQ}{vs:ae AV}
noncomputable def OS(o:AO):aq cQ:=match o with
 | .lst _=>af "list.append"
 | .ba _=>af "bytearray.append"
 |_=>none
def pw(f:AO->aq cQ)(a:AV)(mem:ae AO):aq cQ:=match a with
 | .own p=>(match bM mem p with
  |some o=>f o
  |none=>none)
 |_=>none
theorem pw.u{f:AO->aq cQ}{mem:ae AO}{Q:AV->Prop}(h:pw f a mem=af id)(k:∀p o,bM mem p=af o->f o=af id->Q (.own p)):Q a:=by
 rcases a with _|_|_|_|_|p|_|_|_|_|_|_|_|_|_|_|_|_
 case own=>
  rcases e:bM mem p with _|o
  ·exact cm ((ah (λ x=>(match x with|some o=>f o|none=>none)) e).symm.trans h)
  ·exact k p o e ((ah (λ x=>(match x with|some o=>f o|none=>none)) e).symm.trans h)
 all_goals exact cm h
theorem Dh{f:AO->aq cQ}{mem:ae AO}(e:bM mem p=af o):pw f (.own p) mem=f o:=ah (λ x=>(match x with|some o=>f o|none=>none)) e
theorem yo:PlainAttrs "list":=⟨⟨_,list_getattribute,canon_list_getattribute⟩,list_getattr_none⟩
theorem Ms{M:iy}{A:bn}{l:au}{o:Obj}{vs:bD ak}{name:bI}{pl:im aC}{Q:ak×ae ak->ar->Prop}(slot:Bx "list" name id)(hty:rR (.builtin id)=pure (.type "method_descriptor"))
  (ho:s.heap.get? l=af o) (hl:i3 o vs) (h:Q (.builtin id,[.ref l]) s):aH M A (fJ (.ref l) name pl) Q dw s:=
 pM (T:="list") ⟨o,ho,hl.is.1⟩ yo slot hty (λ a e=>vX e▸⟨o,ho,hl.elim λ n e=>ah Obj.dict e⟩) h
theorem Gy{M:iy}{A:bn}{l:au}{bs:ae b7}{name:bI}{pl:im aC}{Q:ak×ae ak->ar->Prop}(slot:Bx "bytearray" name id)(hty:rR (.builtin id)=pure (.type "method_descriptor"))
  (ho:s.heap.get? l=af (nO bs)) (h:Q (.builtin id,[.ref l]) s):aH M A (fJ (.ref l) name pl) Q dw s:=
 pM (dd ho) ym slot hty (λ a e=>vX e▸⟨_,ho,rfl⟩) h
def Xo(o:AO)(id:cQ)(p:Nat)(vs:ae AV)(σ:St)(K:AV->St->Prop):Prop:=match o with
 | .lst xs=>Hu vs λ v=>id="list.append"/\cK (bB xs.length 1000000) (K .none (σ.put p (.lst (xs++[v]))))
 | .ba bs=>Hu vs λ v=>id="bytearray.append"/\kj v λ m=>need (0<=m/\m < 256/\bs.length < 1000000) (K .none (σ.put p (.ba (bs++[eG m.toNat]))))
 |_=>False
def tG(id:cQ)(a:AV)(vs:ae AV)(σ:St)(K:AV->St->Prop):Prop:=lL a λ p=>pJ σ.mem p λ o=>Xo o id p vs σ K
theorem OV{us:ae ak}{adr:au}{ob:Obj}{jj:aC}(hj:jj=true->P.j=true)(R:RF F ct.aS G ρ σ s)(jN:ρ[p]?=af adr)(h1:s.heap.get? adr=af ob)(q:OR G ρ o ob)(q9:bJ G ρ vs us)(h:Xo o id p vs σ Kv)(WN:id="bytearray.append"->jj=true):
  WP P F.A (call (.builtin id) (.ref adr::us) []) (PE F ct.aS G ρ Kv) s:=by
 rcases o with xs|_|_|_|_|_|bs|_
 case lst=>exact Hu.u (Q:=λ vs=>bJ G ρ vs us->WP P F.A (call (.builtin id) (.ref adr::us) []) (PE F ct.aS G ρ Kv) s) h (λ v h q9=>q9.u1 (Q:=λ us=>WP P F.A (call (.builtin id) (.ref adr::us) []) (PE F ct.aS G ρ Kv) s) λ u vu=>h.1▸aD q λ l q=>cK.u h.2 λ hz hk=>
   X.any (JM (q.1.plain h1) (λ h' L' sb=>(i3.of L').elim λ o' w=>PE.here (R.rA (wf:= .lst (xs++[v])) (s':={s with heap:=h'}) jN w.1 ⟨l.push u,w.2,JC.symm▸q.2.append (.cons vu .nil)⟩ (λ b o n e=>sb.extBut b o n e) ⟨rfl,rfl,rfl⟩) VR.none_ hk)
    (aG (aV (bh.symm.trans q.2.length)) (aG (aQ hz) (dZ.symm▸(by decide:1000000<=16777216)))))) q9
 case ba=>exact Hu.u (Q:=λ vs=>bJ G ρ vs us->WP P F.A (call (.builtin id) (.ref adr::us) []) (PE F ct.aS G ρ Kv) s) h (λ v h q9=>q9.u1 (Q:=λ us=>WP P F.A (call (.builtin id) (.ref adr::us) []) (PE F ct.aS G ρ Kv) s) λ u vu=>h.1▸h.2.u (Q:=λ u=>WP P F.A (call (.builtin "bytearray.append") [.ref adr,u] []) (PE F ct.aS G ρ Kv) s) vu λ m t hk=>hk.u λ b hk=>
   X.jt (hj (WN h.1)) (Iy ((show ob=nO bs from q)▸h1) b.1 b.2.1 (b_ b.2.2 (dZ.symm▸(by decide:1000000 < 16777216))) λ h' e1 e2=>PE.here (R.rA (wf:= .ba _) (s':={s with heap:=h'}) jN e1 rfl e2 ⟨rfl,rfl,rfl⟩) VR.none_ hk)) q9
 all_goals exact h.elim
theorem OT{u:ak}{pl:im aC}{M:iy}{A:bn}{Q:ak×ae ak->ar->Prop}(R:RF F ct.aS G ρ σ s)(va:VR G ρ a u)(h:pw OS a σ.mem=af id)(q:Q (.builtin id,[u]) s):aH M A (fJ u "append" pl) Q dw s:=
 pw.u (Q:=λ a=>VR G ρ a u->aH M A (fJ u "append" pl) Q dw s) h (λ p o e h va=>R.own va e (Q:=λ u=>Q (.builtin id,[u]) s->aH M A (fJ u "append" pl) Q dw s) (λ adr ob aa h1 q0 q=>by
  rcases o with xs|_|_|_|_|_|bs|_
  case lst=>exact aD q0 λ vs w=>Ms slot_list_append type_list_append h1 w.1 (am h▸q)
  case ba=>exact Gy ql xC ((show ob=nO bs from q0)▸h1) (am h▸q)
  all_goals exact cm h) q) va
end
def vO(t:TV)(s:AS):aq {c:Nat×ae TV // t= .ex (.own c.1)/\gW s.mem c.1=af (.lst c.2)}:=ob (nU t) λ p=>jS (gW s.mem p.1) λ o ho=>ob (oLst o) λ vs=>af ⟨(p.1,vs.1),p.2,ho.trans (ah af vs.2)⟩
theorem GS.lst{s:AS}{σ:St}{t:TV}{a:AV}(gs:GS s σ)(c:{c:Nat×ae TV // t= .ex (.own c.1)/\gW s.mem c.1=af (.lst c.2)})(ga:GV t a){Q:AV->Prop}(k:∀us,bM σ.mem c.1.1=af (.lst us)->dH c.1.2 us->Q (.own c.1.1)):Q a:=
 (lC ga c.2.1).symm▸(gs.vs c.2.2 rfl λ aa z=>z).elim λ us z=>k us z.1 z.2
def Xm(t:TV)(ts:ae TV)(s:AS):aq (ae (TV×AS)):=ob (vO t s) λ c=>ob (ze ts) λ u=>nB (bB c.1.2.length 1000) (af [(.ex .none,s.put c.1.1 (.lst (c.1.2++[u.1])))])
theorem OQ{t:TV}{ts:ae TV}{s:AS}{outs:ae (TV×AS)}{a:AV}{vs:ae AV}{σ:St}{q:Prop}(h:Xm t ts s=af outs)(ga:GV t a)(gv:dH ts vs)(gs:GS s σ):D2 (λ K=>tG "list.append" a vs σ K/\(("list.append":cQ)="bytearray.append"->q)) GV outs:=
 ob.u h λ c aa h=>ob.u h λ u aa h=>nB.u h λ hz h=>gs.lst c ga (Q:=λ a=>D2 (λ K=>tG "list.append" a vs σ K/\(("list.append":cQ)="bytearray.append"->q)) GV outs) λ us m g=>dH.v1 u.2 gv (Q:=λ vs=>D2 (λ K=>tG "list.append" (.own c.1.1) vs σ K/\_) GV outs) λ v gx=>
  D2.one (a:=AV.none) (σ:=σ.put c.1.1 (.lst (us++[v]))) h rfl ⟨gs.loc,gs.mem.set (o:= .lst c.1.2) c.2.2 rfl ⟨_,rfl,g.snoc gx⟩ (.inl rfl)⟩ λ K k=>⟨dI m ⟨rfl,cK.i (c6 (aG (aV g.len) (aG (aQ hz) (by decide)))) k⟩,λ h=>bt h (by decide)⟩
theorem V7{α:Type}{id s:cQ}{x:aq α}{r:α}{Q:cQ->Prop}(h:aY (id==s) x none=af r)(k:x=af r->Q s):Q id:=condB h (λ e h=>(a_.mp e).symm▸k h) λ aa h=>cm h
theorem Je{σ:St}{p:Nat}{us:ae AV}(e:bM σ.mem p=af (.lst us)):pw OS (.own p) σ.mem=af "list.append":=Dh e
def Xy(jj:aC):Bm P ct where
 name:="append"
 idOf:=pw OS
 l5:=λ id a vs σ K=>tG id a vs σ K/\(id="bytearray.append"->jj=true)
 jj:=jj
 Y4:=λ F G ρ σ s a u id pl Q O R va h q=>OT R va h q
 snd:=λ F G ρ σ s Kv id a dx u vs hj O R va q9 h=>lL.u (Q:=λ a=>VR G ρ a u->WP P F.A (call (.builtin id) (u::vs) []) (PE F ct.aS G ρ Kv) s) h.1 (λ p h' va=>h'.u λ o e h'=>R.own va e (Q:=λ u=>WP P F.A (call (.builtin id) (u::vs) []) (PE F ct.aS G ρ Kv) s) λ adr ob jN h1 q=>OV hj R jN h1 q q9 h' h.2) va
 idt:=λ t s=>ob (vO t s) λ c=>af ⟨"list.append",λ a σ ga gs=>gs.lst c ga (Q:=λ a=>pw OS a σ.mem=af "list.append") λ us m aa=>Je m⟩
 lf:=λ id t ts s=>aY (id=="list.append") (Xm t ts s) none
 lk:=λ id t ts s outs a vs σ h ga gv gs=>V7 (Q:=λ id=>D2 (λ K=>tG id a vs σ K/\(id="bytearray.append"->jj=true)) GV outs) h λ h=>OQ h ga gv gs
def Wq(o:SE P ct)(ap:c9)(as:SL P ct)(p:c9)(jj:aC):SE P ct:=xBm (Xy jj) o ap as p
noncomputable def Zu(o:AO):aq cQ:=match o with
 | .ba _=>af "bytearray.pop"
 |_=>none
def VA(id:cQ)(a:AV)(vs:ae AV)(σ:St)(K:AV->St->Prop):Prop:=lL a λ p=>pJ σ.mem p λ o=>De o λ bs=>Vr vs (id="bytearray.pop"/\need (0 < bs.length/\bs.length < 1000000) (K .any (σ.put p (.ba bs.dropLast))))
theorem HB{o:AO}{id:cQ}(h:Zu o=af id):"bytearray.pop"=id/\∃bs,o= .ba bs:=by
 rcases o with _|_|_|_|_|_|bs|_
 case ba=>exact⟨am h,bs,rfl⟩
 all_goals exact cm h
def XB:Bm P ct where
 name:="pop"
 idOf:=pw Zu
 l5:=VA
 jj:=true
 Y4:=λ F G ρ σ s a u id pl Q O R va h q=>pw.u (Q:=λ a=>VR G ρ a u->aH (aE P.prog P.w) F.A (fJ u "pop" pl) Q dw s) h (λ p o e h va=>R.own va e (Q:=λ u=>Q (.builtin id,[u]) s->aH (aE P.prog P.w) F.A (fJ u "pop" pl) Q dw s) (λ adr ob aa h1 q0 q=>(HB h).2.elim λ bs eo=>
  Gy uK DO ((show ob=nO bs from(eo▸q0:OR G ρ (.ba bs) ob))▸h1) ((HB h).1▸q)) q) va
 snd:=λ F G ρ σ s Kv id a dx u vs hj O R va q9 h=>lL.u (Q:=λ a=>VR G ρ a u->WP P F.A (call (.builtin id) (u::vs) []) (PE F ct.aS G ρ Kv) s) h (λ p h' va=>h'.u λ o e h'=>R.own va e (Q:=λ u=>WP P F.A (call (.builtin id) (u::vs) []) (PE F ct.aS G ρ Kv) s) λ adr ob jN h1 q=>De.u (Q:=λ o=>OR G ρ o ob->WP P F.A (call (.builtin id) (.ref adr::vs) []) (PE F ct.aS G ρ Kv) s) h' (λ bs h' q=>
  Vr.u (Q:=λ dx=>bJ G ρ dx vs->WP P F.A (call (.builtin id) (.ref adr::vs) []) (PE F ct.aS G ρ Kv) s) h' (λ h' q9=>q9.u0 (Q:=λ vs=>WP P F.A (call (.builtin id) (.ref adr::vs) []) (PE F ct.aS G ρ Kv) s) (h'.1.symm▸h'.2.u λ b hk=>
   X.jt (hj rfl) (TN ((show ob=nO bs from q)▸h1) (fW.mp b.1) (eZ (b_ b.2 (dZ.symm▸(by decide:1000000 < 16777216)))) λ h' i t e1 e2=>PE.here (R.rA (wf:= .ba _) (s':={s with heap:=h',toks:=s.toks+1}) jN e1 rfl e2 ⟨rfl,rfl,rfl⟩) (show VR G ρ .any (.int i t) from rfl) hk))) q9) q) va
def adY(o:SE P ct)(ap:c9)(as:SL P ct)(p:c9):SE P ct:=xBm XB o ap as p
def I9(a:AV)(K:ae b7->Prop):Prop:=match a with
 | .j9 bs=>K bs
 |_=>False
theorem I9.u{a:AV}{K:ae b7->Prop}{Q:AV->Prop}(h:I9 a K)(k:∀bs,K bs->Q (.j9 bs)):Q a:=by
 rcases a with _|_|_|_|bs|_|_|_|_|_|_|_|_|_|_|_|_|_
 case j9=>exact k bs h
 all_goals exact h.elim
noncomputable def Sn(a:AV)(_:ae AO):aq cQ:=match a with
 | .j9 _=>af "bytes.count"
 |_=>none
theorem KW{a:AV}{m:ae AO}{id:cQ}(h:Sn a m=af id):"bytes.count"=id/\∃bs,a= .j9 bs:=by
 rcases a with _|_|_|_|bs|_|_|_|_|_|_|_|_|_|_|_|_|_
 case j9=>exact⟨am h,bs,rfl⟩
 all_goals exact cm h
def EO(id:cQ)(a:AV)(vs:ae AV)(σ:St)(K:AV->St->Prop):Prop:=I9 a λ bs=>Hu vs λ v=>id="bytes.count"/\kj v λ m=>need (0<=m/\m < 256) (K (.int (cnt bs.toArray m)) σ)
def Xz:Bm P ct where
 name:="count"
 idOf:=Sn
 l5:=EO
 jj:=false
 Y4:=λ F G ρ σ s a u id pl Q O R va h q=>have h:=KW h; h.2.elim λ bs e=>(e▸va:VR G ρ (.j9 bs) u).Pa (Q:=λ u=>Q (.builtin id,[u]) s->aH (aE P.prog P.w) F.A (fJ u "count" pl) Q dw s) (λ t q=>pM (T:="bytes") (gH _ _ _) yn ry yu (λ a e=>nomatch e) (h.1▸q)) q
 snd:=λ F G ρ σ s Kv id a dx u vs hj O R va q9 h=>I9.u (Q:=λ a=>VR G ρ a u->WP P F.A (call (.builtin id) (u::vs) []) (PE F ct.aS G ρ Kv) s) h (λ bs h va=>va.Pa (Q:=λ u=>WP P F.A (call (.builtin id) (u::vs) []) (PE F ct.aS G ρ Kv) s) λ t=>Hu.u (Q:=λ dx=>bJ G ρ dx vs->WP P F.A (call (.builtin id) (.bytes bs.toArray t::vs) []) (PE F ct.aS G ρ Kv) s) h (λ v h q9=>
  q9.u1 (Q:=λ vs=>WP P F.A (call (.builtin id) (.bytes bs.toArray t::vs) []) (PE F ct.aS G ρ Kv) s) λ w vw=>h.1.symm▸h.2.u (Q:=λ w=>WP P F.A (call (.builtin "bytes.count") [.bytes bs.toArray t,w] []) (PE F ct.aS G ρ Kv) s) vw λ m t' hk=>hk.u λ b hk=>X.any (B3 b.1 b.2 (PE.here (R.toks _) VR.mH hk))) q9) va
 idt:=λ t s=>ob (Wa t) λ c=>af ⟨"bytes.count",λ a σ ga gs=>aD (c.2▸ga:GV (.JT c.1) a) λ bs e=>e.1.symm▸rfl⟩
 lf:=λ id t ts s=>aY (id=="bytes.count") (ob (Wa t) λ aa=>ob (ze ts) λ u=>ob (lz u.1) λ i=>bE (decide (0<=i.1/\i.1 < 256)) λ aa=>af [(.ai,s)]) none
 lk:=λ id t ts s outs a vs σ h ga gv gs=>V7 (Q:=λ id=>D2 (EO id a vs σ) GV outs) h λ h=>ob.u h λ c aa h=>ob.u h λ u aa h=>ob.u h λ i aa h=>bE.u h λ hd h=>aD (c.2▸ga:GV (.JT c.1) a) λ bs e=>e.1.symm▸dH.v1 u.2 gv (Q:=λ vs=>D2 (EO "bytes.count" (.j9 bs) vs σ) GV outs) λ v gx=>
  D2.one (a:= .int (cnt bs.toArray i.1)) h ⟨_,rfl⟩ gs λ K k=>⟨rfl,(lC gx i.2).symm▸T7 (bg hd) k⟩
def Ws(o:SE P ct)(ap:c9)(as:SL P ct)(p:c9):SE P ct:=xBm Xz o ap as p
def AC(o:AO)(K:ae (ae Int)->ae AV->Prop):Prop:=match o with
 | .bG ks vs=>K ks vs
 |_=>False
theorem AC.u{o:AO}{K:ae (ae Int)->ae AV->Prop}{Q:AO->Prop}(h:AC o K)(k:∀ks vs,K ks vs->Q (.bG ks vs)):Q o:=by
 rcases o with _|_|_|_|_|_|_|_
 case bG=>exact k _ _ h
 all_goals exact h.elim
def md(a:AV)(mem:ae AO)(K:ae (ae Int)->ae AV->Prop):Prop:=match a with
 | .own p=>pJ mem p λ o=>AC o K
 | .bG ks vs=>K ks vs
 |_=>False
theorem md.u{a:AV}{mem:ae AO}{K:ae (ae Int)->ae AV->Prop}{Q:AV->Prop}(h:md a mem K)(k1:∀p ks vs,bM mem p=af (.bG ks vs)->K ks vs->Q (.own p))(k2:∀ks vs,K ks vs->Q (.bG ks vs)):Q a:=by
 rcases a with _|_|_|_|_|p|_|_|_|_|_|_|_|_|_|_|_|⟨ks,vs⟩
 case own=>exact pJ.u h λ o e h=>AC.u (Q:=λ o=>bM mem p=af o->Q (.own p)) h (λ ks vs h e=>k1 p ks vs e h) e
 case bG=>exact k2 ks vs h
 all_goals exact h.elim
section
variable{F:Fd}{G:BM}{ρ:ae au}{σ:St}{s:ar}{a:AV}{v:ak}{K:ae (ae Int)->ae AV->Prop}
theorem AT(O:gO P ct F)(R:RF F ct.aS G ρ σ s){a:au}(h:a∈ρ):a≠di:=λ e=>(P.Jx _ (R.ja O)).elim λ o ho=>dh (R.rm.fr a h) (e▸ho)
inductive Ts(G:BM)(ρ:ae au)(s:ar)(v:ak)(K:ae (ae Int)->ae AV->Prop):Prop
 |mk (d:au) (o:Obj) (es:bD bf) (n:Nat) (us:ae ak) (ks:ae (ae Int)) (dx:ae AV) (e:v= .ref d) (ho:s.heap.get? d=af o) (hc:o.ExactDict) (ns:d≠di) (hd:o.data= .dict es n) (hk:pE G ks es.toList us) (hv:bJ G ρ dx us) (hn:ks.Nodup) (k:K ks dx)
theorem zd(O:gO P ct F)(R:RF F ct.aS G ρ σ s)(va:VR G ρ a v)(h:md a σ.mem K):Ts G ρ s v K:=
 md.u (Q:=λ a=>VR G ρ a v->Ts G ρ s v K) h (λ p ks vs e h va=>R.own va e (Q:=λ v=>Ts G ρ s v K) λ d ob hd ho q=>q.2.elim λ es z=>z.elim λ n z=>z.elim λ us z=>⟨d,ob,es,n,us,ks,vs,rfl,ho,q.1,AT O R (iq hd),z.1,z.2.1,z.2.2.1,z.2.2.2,h⟩)
  (λ ks vs h va=>aD va λ d z=>z.elim λ ob z=>z.elim λ es z=>z.elim λ n z=>z.elim λ us z=>⟨d,ob,es,n,us,ks,vs,z.1,R.rm.kg _ _ z.2.1,z.2.2.1,z.2.2.2.2.2.2.2,z.2.2.2.1,z.2.2.2.2.1,z.2.2.2.2.2.1,z.2.2.2.2.2.2.1,h⟩) va
inductive abf(P:cC)(G:BM)(ρ:ae au)(s:ar)(v:ak)(K:ae (ae Int)->ae AV->Prop):Prop
 |mk (d:au) (o:Obj) (xs:ae (ae Int×au×ak)) (ks:ae (ae Int)) (dx:ae AV) (e:v= .ref d) (ho:s.heap.get? d=af o) (hc:o.ExactDict) (ns:d≠di) (D:s.heap.DictOfH (g9 (cE P.prog P.w)) d xs) (e1:xs.map (·.1)=ks) (e2:bJ G ρ dx (xs.map (·.2.2))) (e3:∀x∈xs,TK G x.1 x.2.1) (k:K ks dx)
theorem lK(O:gO P ct F)(R:RF F ct.aS G ρ σ s)(va:VR G ρ a v)(h:md a σ.mem K):abf P G ρ s v K:=by
 rcases zd O R va h with⟨d,o,es,n,us,ks,dx,e,ho,hc,ns,hd,hk,hv,hn,k⟩
 exact(hk.rows (prog:=P.prog) (w:=P.w)).elim λ xs z=>⟨d,o,xs,_,_,e,ho,hc,ns,⟨o,es,n,ho,hc,hd,z.2.2.1,λ x hx=>(z.2.2.2 x hx).key R.rm.kg,z.1.symm▸hn⟩,z.1,z.2.1▸hv,z.2.2.2,k⟩
end
noncomputable def Ua(o:AO):aq cQ:=match o with
 | .bG _ _=>af "dict.get"
 |_=>none
def getId(a:AV)(mem:ae AO):aq cQ:=match a with
 | .bG _ _=>af "dict.get"
 |a=>pw Ua a mem
theorem Pn{o:AO}{id:cQ}(h:Ua o=af id):"dict.get"=id/\∃ks vs,o= .bG ks vs:=by
 rcases o with _|_|_|_|_|⟨ks,vs⟩|_|_
 case bG=>exact⟨am h,ks,vs,rfl⟩
 all_goals exact cm h
theorem Lw{a:AV}{mem:ae AO}{id:cQ}(h:getId a mem=af id):"dict.get"=id/\md a mem λ aa aa=>True:=by
 rcases a with _|_|_|_|_|p|_|_|_|_|_|_|_|_|_|_|_|⟨ks,vs⟩
 case own=>exact pw.u (a:= .own p) (Q:=λ a=>"dict.get"=id/\md a mem λ aa aa=>True) h λ p o e h=>have h:=Pn h; ⟨h.1,h.2.elim λ aa h=>h.elim λ aa h=>dI e (h▸trivial)⟩
 case bG=>exact⟨am h,trivial⟩
 all_goals exact cm h
noncomputable def wH(o:aq AV)(d:AV):AV:=match o with
 |some v=>v
 |none=>d
def wJ(id:cQ)(a:AV)(vs:ae AV)(σ:St)(K:AV->St->Prop):Prop:=id="dict.get"/\md a σ.mem λ ks us=>match vs with
 |[v]=>Dg v λ k=>K (wH (wR ks us k) .none) σ
 |[v,d]=>Dg v λ k=>K (wH (wR ks us k) d) σ
 |_=>False
section
variable{G:BM}{ρ:ae au}{n:ae Int}
theorem CY:∀{ks:ae (ae Int)} {vs:ae AV} {us:ae ak},bJ G ρ vs us->us.length=ks.length->wR ks vs n=none->pH ks n=false
 |[],_,_=>λ aa aa aa=>rfl
 |k::r,[],us=>λ hv l aa=>hv.u0 (Q:=λ us=>us.length=(k::r).length->pH (k::r) n=false) (λ l=>bt l.symm (cy _)) l
 |k::r,w::t,us=>λ hv l h=>hv.uc (Q:=λ us=>us.length=(k::r).length->pH (k::r) n=false) (λ x xr aa hr l=>by
  cases q:sw k n with
  |true=>exact cm (h.symm.trans (vC q))
  |false=>exact(ah (aY · true (pH r n)) q).trans (CY hr (eL l) ((sR q).symm.trans h))) l
theorem Qm{ks:ae (ae Int)}{vs:ae AV}{xs:ae (ae Int×au×ak)}{d:AV}{u:ak}(e:xs.map (·.1)=ks)(hv:bJ G ρ vs (xs.map (·.2.2)))(hu:VR G ρ d u):VR G ρ (wH (wR ks vs n) d) (((atKey xs n).map (·.2)).getD u):=by
 cases h:wR ks vs n with
 |some v=>exact(Hg h e hv).elim λ p z=>z.1.symm▸z.2
 |none=>exact(Option.isSome_eq_false_iff.mp ((wS e).trans (CY hv (e▸(bL _).trans (bL _).symm) h))|>jh.mp).symm▸hu
end
def Z5(t:TV):aq {k:ae Int // ∀v,GV t v->∀K:ae Int->Prop,K k->Dg v K}:=NJ t
def FS:ae (ae Int)->ae TV->ae Int->aq TV:=Ff sw
theorem A0{d:TV}{e:AV}(gd:GV d e){x:ae Int}:∀{ks:ae (ae Int)} {ts:ae TV} {us:ae AV},dH ts us->ks.length=ts.length->GV ((FS ks ts x).getD d) (wH (wR ks us x) e)
 |[],[],_=>λ g aa=>g.u0 (Q:=λ us=>GV d (wH (wR [] us x) e)) gd
 |[],_::_,_=>λ aa l=>bt l.symm (cy _)
 |_::_,[],_=>λ aa l=>bt l (cy _)
 |k::ks,t::ts,_=>λ g l=>g.uc (Q:=λ us=>GV ((FS (k::ks) (t::ts) x).getD d) (wH (wR (k::ks) us x) e)) λ u r gu gr=>by
  cases q:sw k x with
  |true=>rw[show FS (k::ks) (t::ts) x=af t from vC q,show wR (k::ks) (u::r) x=af u from vC q]; exact gu
  |false=>rw[show FS (k::ks) (t::ts) x=FS ks ts x from sR q,show wR (k::ks) (u::r) x=wR ks r x from sR q]; exact A0 gd gr (eL l)
def HY(t:TV)(s:AS):aq {c:ae (ae Int)×ae TV // ∀a σ,GV t a->GS s σ->getId a σ.mem=af "dict.get"/\∃us,dH c.2 us/\∀K:ae (ae Int)->ae AV->Prop,K c.1 us->md a σ.mem K}:=ob (nU t) λ p=>jS (gW s.mem p.1) λ o ho=>ob (oDct o) λ q=>af ⟨q.1,λ a σ ga gs=>
 (lC ga p.2).symm▸(gs.vs ho q.2 λ aa z=>z).elim λ us z=>⟨Dh (f:=Ua) z.1,us,z.2,λ K k=>dI z.1 k⟩⟩
def Ye(t:TV)(ts:ae TV)(s:AS):aq (ae (TV×AS)):=ob (HY t s) λ c=>nB (aT c.1.1.length c.1.2.length) (oe (ob (ze ts) λ u=>ob (Z5 u.1) λ k=>af [((FS c.1.1 c.1.2 k.1).getD (.ex .none),s)]) (ob (RC ts) λ u=>ob (Z5 u.1.1) λ k=>af [((FS c.1.1 c.1.2 k.1).getD u.1.2,s)]))
theorem P2{t:TV}{ts:ae TV}{s:AS}{outs:ae (TV×AS)}{a:AV}{vs:ae AV}{σ:St}(h:Ye t ts s=af outs)(ga:GV t a)(gv:dH ts vs)(gs:GS s σ):D2 (wJ "dict.get" a vs σ) GV outs:=
 ob.u h λ c aa h=>nB.u h λ hl h=>have hl:=aL hl; (c.2 a σ ga gs).2.elim λ us w=>oe.v h (λ h=>ob.u h λ u aa h=>ob.u h λ k aa h=>dH.v1 u.2 gv (Q:=λ vs=>D2 (wJ "dict.get" a vs σ) GV outs) λ v gx=>D2.one h (A0 (d:= .ex .none) (e:= .none) rfl w.1 hl) gs λ K z=>⟨rfl,w.2 _ (k.2 v gx _ z)⟩)
  λ h=>ob.u h λ u aa h=>ob.u h λ k aa h=>(u.2▸gv:dH [u.1.1,u.1.2] vs).u2 (Q:=λ vs=>D2 (wJ "dict.get" a vs σ) GV outs) λ v d gx gd=>D2.one h (A0 gd w.1 hl) gs λ K z=>⟨rfl,w.2 _ (k.2 v gx _ z)⟩
theorem G5{F:Fd}{G:BM}{ρ:ae au}{σ:St}{s:ar}{d:au}{xs:ae (ae Int×au×ak)}{ks:ae (ae Int)}{us:ae AV}(O:gO P ct F)(R:RF F ct.aS G ρ σ s)(ns:d≠di)(D:s.heap.DictOfH (g9 (cE P.prog P.w)) d xs)(e1:xs.map (·.1)=ks)(e2:bJ G ρ us (xs.map (·.2.2)))
  {Q:Prop} (k:(g9 (cE P.prog P.w)).room F.A.in1->(d==di)=false->(∀{k ka},TK G k ka->(g9 (cE P.prog P.w)).is s.heap k ka)->(∀{k:ae Int} {d:AV} {u:ak},VR G ρ d u->VR G ρ (wH (wR ks us k) d) (((atKey xs k).map (·.2)).getD u))->Q):Q:=
 k (aU (fH (bq _ _) 1) (fw (gj O.room.2.1) (by decide))) (ed.mpr ns) (λ tk=>tk.key R.rm.kg) λ hu=>Qm e1 e2 hu
def XA:Bm P ct where
 name:="get"
 idOf:=getId
 l5:=wJ
 jj:=false
 Y4:=λ F G ρ σ s a u id pl Q O R va h q=>by
  have h:=Lw h
  rcases lK O R va h.2 with⟨d,ob,xs,ks,dx,rfl,ho,hc,_⟩
  exact pM ⟨ob,ho,hc.1⟩ PySem.F.plainAttrs_dict pD PySem.F.type_dict_get (λ a e=>vX e▸⟨ob,ho,hc.2.1⟩) (h.1▸q)
 snd:=λ F G ρ σ s Kv id a dx u vs hj O R va q9 h=>by
  obtain⟨rfl,h⟩:=h
  rcases lK O R va h with⟨d,ob,xs,ks,us,rfl,ho,hc,ns,D,e1,e2,e3,h⟩
  refine G5 O R ns D e1 e2 λ room Br key all=>?_
  rcases dx with _|⟨v,_|⟨e,_|_⟩⟩
  ·exact h.elim
  ·exact q9.u1 (Q:=λ vs=>WP P F.A (call (.builtin "dict.get") (.ref d::vs) []) (PE F ct.aS G ρ Kv) s) λ w vw=>(sW vw h).elim λ k z=>z.elim λ ka z=>z.1.symm▸X.any (call_meetsIn pD D.typeIs zF (PySem.F.args_dict_get_2 _ _) (meetsH_dict_get (g9 (cE P.prog P.w)) d ka Br) ⟨room,k,xs,key z.2.1,D,PE.toks R (all VR.none_) z.2.2⟩)
  ·exact q9.u2 (Q:=λ vs=>WP P F.A (call (.builtin "dict.get") (.ref d::vs) []) (PE F ct.aS G ρ Kv) s) λ w y vw vy=>(sW vw h).elim λ k z=>z.elim λ ka z=>z.1.symm▸X.any (call_meetsIn pD D.typeIs zF (PySem.F.args_dict_get_3 _ _ _) (meetsH_dict_get_default (g9 (cE P.prog P.w)) d ka Br y) ⟨room,k,xs,key z.2.1,D,PE.toks R (all vy) z.2.2⟩)
  ·exact h.elim
 idt:=λ t s=>ob (HY t s) λ c=>af ⟨"dict.get",λ a σ ga gs=>(c.2 a σ ga gs).1⟩
 lf:=λ id t ts s=>aY (id=="dict.get") (Ye t ts s) none
 lk:=λ id t ts s outs a vs σ h ga gv gs=>V7 (Q:=λ id=>D2 (wJ id a vs σ) GV outs) h λ h=>P2 h ga gv gs
def aaq(o:SE P ct)(ap:c9)(as:SL P ct)(p:c9):SE P ct:=xBm XA o ap as p
end
section
variable{P:cC}{ct:Ct}
noncomputable def aao(b:aC)(k:Nat)(p:c9):SE P ct where
 bA:= .Constant (.bool b) k p
 run:=λ σ K=>K (.bool b) σ
 ch:=true
 star:=λ aa aa=>rfl
 ok:=λ aa F G ρ σ s Kv aa R h=>X.any<|wpAny_Constant_bool (PE.here R VR.KO h)
 ab:=λ s=>af [(.ex (.bool b),s)]
 cO:=λ aa s outs h σ gs=>D2.one h rfl gs λ aa k=>k
noncomputable def adZ(x:bI)(k:Nat)(p:c9):SE P ct where
 bA:= .Constant (.str x) k p
 run:=λ σ K=>K .any σ
 ch:=true
 star:=λ aa aa=>rfl
 ok:=λ aa F G ρ σ s Kv aa R h=>X.any<|wpAny_Constant_str (PE.here (R.toks _) (show VR _ _ .any (.str x _) from rfl) h)
 ab:=λ s=>af [(.ex .any,s)]
 cO:=λ aa s outs h σ gs=>D2.one h rfl gs λ aa k=>k
noncomputable def adT(x:ae b7)(k:Nat)(p:c9):SE P ct where
 bA:= .Constant (.bytes x) k p
 run:=λ σ K=>K (.j9 x) σ
 ch:=true
 star:=λ aa aa=>rfl
 ok:=λ aa F G ρ σ s Kv aa R h=>λ aa aa aa aa=>PE.toks R VR.Sj h
theorem Ud{G:BM}{ρ:ae au}:∀{t:aC},OR G ρ (aY t (.bG [] []) (.iO [] [])) {cls:= .type "dict",data:= .dict #[]}
 |true=>vR ⟨rfl,rfl,rfl⟩ ⟨#[],_,[],rfl,⟨rfl,rfl⟩,bJ.nil,gC⟩
 |false=>vR ⟨rfl,rfl,rfl⟩ ⟨#[],_,[],rfl,⟨rfl,rfl⟩,bJ.nil,gC⟩
theorem K9{m:ae AO}:∀{t:aC},GO m (aY t (.bG [] []) (.iO [] [])) (aY t (.bG [] []) (.iO [] []))/\mq (aY t (.bG [] []) (.iO [] []))=none
 |true=>⟨⟨[],rfl,rfl⟩,rfl⟩
 |false=>⟨⟨[],rfl,rfl⟩,rfl⟩
noncomputable def Wt(t:aC)(p:c9):SE P ct where
 bA:= .Dict [] [] p
 run:=λ σ K=>K (.own σ.mem.length) ⟨σ.loc,σ.mem++[aY t (.bG [] []) (.iO [] [])]⟩
 ch:=true
 star:=λ aa aa=>rfl
 ok:=λ aa F G ρ σ s Kv aa R h=>X.any<|by
  rw[eval_Dict_empty]
  exact aj (h_ (cP (PE.Fo (s':={s with heap:=s.heap.push {cls:= .type "dict",data:= .dict #[]}}) R R.K0 (aN _ rfl) Ud (λ b o e=>aA _ e) ⟨rfl,rfl,rfl⟩ h)))
 ab:=λ s=>af [(.ex (.own s.mem.length),⟨s.loc,s.mem++[aY t (.bG [] []) (.iO [] [])]⟩)]
 cO:=λ aa s outs h σ gs=>D2.one (a:=AV.own σ.mem.length) (σ:=⟨σ.loc,σ.mem++[aY t (.bG [] []) (.iO [] [])]⟩) h (ah AV.own gs.mem.len.symm) ⟨gs.loc,gs.mem.app (K9 (m:=σ.mem)).1 (K9 (m:=σ.mem)).2⟩ λ K k=>k
def acR(o:AO)(K:ae AV->Prop):Prop:=match o with
 | .lst xs=>K xs
 | .il ns=>K (bX ns)
 |_=>False
def nt(a:AV)(mem:ae AO)(K:ae AV->Prop):Prop:=match a with
 | .own p=>pJ mem p λ o=>acR o K
 | .lst xs=>K xs
 | .row ns=>K (bX ns)
 |_=>False
theorem nt.u{F:Fd}{aS:ae bI}{G:BM}{ρ:ae au}{σ:St}{s:ar}{a:AV}{v:ak}{K:ae AV->Prop}{Q:ak->Prop}(h:nt a σ.mem K)(R:RF F aS G ρ σ s)(va:VR G ρ a v)(k:∀l o vs xs,s.heap.get? l=af o->i3 o vs->bJ G ρ xs vs.toList->K xs->Q (.ref l)):Q v:=by
 rcases a with _|_|_|_|_|p|_|_|_|_|_|xs|ns|_|_|_|_|_
 case own=>
  exact pJ.u h λ o e h=>R.own va e (Q:=Q) λ adr ob aa h1 q=>by
   rcases o with xs|ns|_|_|_|_|_|_
   case lst=>exact aD q λ us q=>k adr ob us xs h1 q.1 q.2 h
   case il=>exact aD q λ us q=>k adr ob us _ h1 q.1 (oX q.2) h
   all_goals exact h.elim
 case lst=>exact va.lstU (Q:=Q) λ l o us hg hl hv=>k l o us xs (R.rm.kg _ _ hg) hl hv h
 case row=>exact va.Dr (Q:=Q) λ l o us hg hl hv=>k l o us _ (R.rm.kg _ _ hg) hl (oX hv) h
 all_goals exact h.elim
noncomputable def Ep:ae AV->ae AV->ae AV
 |[],ys=>ys
 |x::xs,ys=>x::Ep xs ys
theorem zN:∀xs ys:ae AV,Ep xs ys=xs++ys
 |[],_=>rfl
 |x::xs,ys=>ah (x::·) (zN xs ys)
noncomputable def xd(xs:ae AV):Nat->ae AV
 |0=>[]
 |n+1=>Ep xs (xd xs n)
noncomputable def Qt(xs:ae AV):AO:=match intsOf xs with
 |some ns=> .il ns
 |none=> .lst xs
theorem Vk{G:BM}{ρ:ae au}{xs:ae AV}{o:Obj}{vs:bD ak}(hl:i3 o vs)(hv:bJ G ρ xs vs.toList):OR G ρ (Qt xs) o:=by
 unfold Qt
 cases h:intsOf xs with
 |some ns=>exact⟨vs,hl,ot h hv⟩
 |none=>exact⟨vs,hl,hv⟩
section
variable{F:Fd}{G:BM}{ρ:ae au}{σ:St}{s:ar}{Kv:AV->St->Prop}{a b:AV}{u v:ak}{xs ys:ae AV}{vs us:bD ak}{op:cH}
theorem Hx{aS:ae bI}(R:RF F aS G ρ σ s)(hv:bJ G ρ xs vs.toList)(h:Kv (.own σ.mem.length) ⟨σ.loc,σ.mem++[Qt xs]⟩):PE F aS G ρ Kv (.ref s.heap.objs.size) {s with heap:=s.heap.push {cls:= .type "list",data:= .seq vs}}:=
 PE.Fo (s':={s with heap:=s.heap.push {cls:= .type "list",data:= .seq vs}}) R R.K0 (aN _ rfl) (Vk ⟨_,rfl⟩ (bJ.up (dG.refl _) (Ext.snoc _ _) _ hv)) (λ b o e=>aA _ e) ⟨rfl,rfl,rfl⟩ h
def O6(op:cH)(a b:AV)(σ:St)(K:AV->St->Prop):Prop:=match op with
 | .Add=>nt a σ.mem λ xs=>nt b σ.mem λ ys=>cK (bB xs.length 1000&&bB ys.length 1000) (K (.own σ.mem.length) ⟨σ.loc,σ.mem++[Qt (Ep xs ys)]⟩)
 | .Mult=>nt a σ.mem λ xs=>kj b λ n=>need (0<=n/\n < 1000/\xs.length < 1000) (K (.own σ.mem.length) ⟨σ.loc,σ.mem++[Qt (xd xs n.toNat)]⟩)
 |_=>False
def BZ(op:cH)(a b:AV)(σ:St)(K:AV->St->Prop):Prop:=match a with
 | .int i=>kj b λ j=>binI op i j λ r=>K (.int r) σ
 |a=>O6 op a b σ K
theorem foldl_rep(xs:bD ak):∀(n:Nat) (acc:bD ak),(JD (λ x1 x2=>x1++x2) acc (eU n xs)).toList=acc.toList++(eU n xs.toList).flatten
 |0,acc=>(bS _).symm
 |n+1,acc=>(foldl_rep xs n (acc++xs)).trans ((ah (·++_) mu).trans (gT ..))
theorem M5{xs:ae AV}{vs:ae ak}(h:bJ G ρ xs vs):∀n:Nat,bJ G ρ (xd xs n) (eU n vs).flatten
 |0=>bJ.nil
 |n+1=>show bJ G ρ (Ep xs (xd xs n)) (vs++(eU n vs).flatten) from(zN xs (xd xs n)).symm▸h.append (M5 h n)
theorem Qv{prog:aK}{w:bw}{A:bn}{l:au}{items:bD ak}{k:Nat}{x:Int}{u:kx}{Q:ak->ar->Prop}
  (hl:s.heap.get? l=af {cls:= .type "list",dict:=none,data:= .seq items k,slots:=#[]}) (hlo:0<=x) (hhi:x < 1000) (hsz:items.size < 1000)
  (h:Q (.ref s.heap.objs.size) {s with heap:=s.heap.push {cls:= .type "list",data:= .seq (JD (λ x1 x2=>x1++x2) #[] (eU (if items.isEmpty=true then 0 else x.toNat) items))}}):
  aH (aE prog w) A (kV .Mult (.ref l) (.int x u)) Q dw s:=by
 have hm:items.size * x.toNat<=2 ^ 24:=aG (Nat.mul_le_mul (eZ hsz) (show x.toNat<=1000 by omega)) (by decide)
 exact wpAny_binaryOp_repeat_ref (T:="list") (U:="int") (by decide) ⟨_,hl,rfl⟩ (λ s'=>mD s' x u) noFill_list_mul F.fills_int_mul F.slot_int_rmul repeat_list F.slot_int_index.lookup
  (call_meets F.slot_int_rmul (mD s x u) F.entry_int_rmul (F.args_int_rmul_2 _ _) (int___rmul___int_list x u l items k)
   ⟨hl,rfl,⟨_,hl,rfl⟩,call_meets F.slot_list_mul ⟨_,hl,rfl⟩ F.entry_list_mul (F.args_list_mul_2 _ _)
    (AutoListH.list___mul___list_int_3 l items k x u (by simp [Builtin.List.listFitsIndex]; omega) (by omega) (by simp [Builtin.List.listTooLong,gA]; omega))
    ⟨hl,h⟩⟩)
theorem Dp:∀n:Nat,xd [] n=[]
 |0=>rfl
 |n+1=>Dp n
theorem ZA{n:Nat}(hv:bJ G ρ xs us.toList):bJ G ρ (xd xs n) (JD (λ x1 x2=>x1++x2) #[] (eU (if us.isEmpty=true then 0 else n) us)).toList:=by
 rw[foldl_rep]
 by_cases he:us.isEmpty=true
 ·rw[dq he]
  cases Array.isEmpty_iff.mp he
  cases cZ.mp hv.length.symm
  exact(ah (bJ G ρ · []) (Dp n)).mpr bJ.nil
 ·rw[bC he]
  exact M5 hv n
theorem nh(hv:bJ G ρ xs us.toList):us.size=xs.length:=bh.symm.trans hv.length
theorem Ey(R:RF F ct.aS G ρ σ s)(va:VR G ρ a u)(vb:VR G ρ b v)(h:O6 op a b σ Kv):aH (aE P.prog P.w) F.A (kV op u v) (PE F ct.aS G ρ Kv) dw s:=by
 cases op
 case Add=>
  exact nt.u (Q:=λ u=>aH (aE P.prog P.w) F.A (kV .Add u v) (PE F ct.aS G ρ Kv) dw s) h R va λ l o us xs ho lo hv h=>lo.elim λ n e=>h.u (Q:=λ v=>aH (aE P.prog P.w) F.A (kV .Add (.ref l) v) (PE F ct.aS G ρ Kv) dw s) R vb λ l2 o2 ws ys UQ lo2 hw h=>lo2.elim λ n2 e2=>h.u λ hz h=>
   PySem.P.add_list (n:=n) (n2:=n2) (ho.trans (ah af e)) (UQ.trans (ah af e2)) (Hx R (xs:=Ep xs ys) (vs:=us++ws) ((zN xs ys).symm▸mu.symm▸hv.append hw) h)
    (aG (Nat.add_le_add (nh hv▸aQ (aF hz).1) (nh hw▸aQ (aF hz).2)) (dZ.symm▸(by decide:1000+1000<=16777216)))
 case Mult=>
  exact nt.u (Q:=λ u=>aH (aE P.prog P.w) F.A (kV .Mult u v) (PE F ct.aS G ρ Kv) dw s) h R va λ l o us xs ho lo hv h=>lo.elim λ n e=>h.u (Q:=λ v=>aH (aE P.prog P.w) F.A (kV .Mult (.ref l) v) (PE F ct.aS G ρ Kv) dw s) vb λ i t h=>h.u λ hb h=>
   Qv (ho.trans (ah af e)) hb.1 hb.2.1 (nh hv▸hb.2.2) (Hx R (xs:=xd xs i.toNat) (ZA hv) h)
 all_goals exact h.elim
theorem QG(h:BZ op a b σ Kv){Q:AV->Prop}(k:∀i,(kj b λ j=>binI op i j λ r=>Kv (.int r) σ)->Q (.int i))(k':O6 op a b σ Kv->Q a):Q a:=by
 rcases a with _|_|_|i|_|_|_|_|_|_|_|_|_|_|_|_|_|_
 case int=>exact k i h
 all_goals exact k' h
theorem Ez(R:RF F ct.aS G ρ σ s)(va:VR G ρ a u)(vb:VR G ρ b v)(h:BZ op a b σ Kv):aH (aE P.prog P.w) F.A (kV op u v) (PE F ct.aS G ρ Kv) dw s:=
 QG h (Q:=λ a=>VR G ρ a u->aH (aE P.prog P.w) F.A (kV op u v) (PE F ct.aS G ρ Kv) dw s) (λ i h va=>va.iu (Q:=λ u=>aH (aE P.prog P.w) F.A (kV op u v) (PE F ct.aS G ρ Kv) dw s) λ t=>h.u (Q:=λ v=>aH (aE P.prog P.w) F.A (kV op (.int i t) v) (PE F ct.aS G ρ Kv) dw s) vb λ j t' h=>Ew R h) (λ h va=>Ey R va vb h) va
end
theorem CM:∀l:ae Int,intsOf (bX l)=af l
 |[]=>rfl
 |i::r=>CN rfl (CM r)
theorem Dq(c:Int):∀n:Nat,xd [.int c] n=bX (eU n c)
 |0=>rfl
 |n+1=>ah (AV.int c::·) (Dq c n)
noncomputable def VG(c:Int):Nat->ae (Int×Int)
 |0=>[]
 |n+1=>(c,c)::VG c n
theorem HG(c:Int):∀n,rb (VG c n) (eU n c)
 |0=>rfl
 |n+1=>rb.cons (q:=(c,c)) (dT _) (dT _) (HG c n)
def QS(c:Int)(n:Nat):TO:=aY (bB n 8) (.il (VG c n)) (.Al n c c)
theorem HF(m:ae AO)(c:Int)(n:Nat):GO m (QS c n) (.il (eU n c))/\mq (QS c n)=none:=by
 unfold QS
 cases bB n 8 with
 |true=>exact⟨⟨_,rfl,HG c n⟩,rfl⟩
 |false=>exact⟨⟨_,rfl,List.length_replicate,λ x hx=>(List.eq_of_mem_replicate hx).symm▸⟨dT _,dT _⟩⟩,rfl⟩
noncomputable def one?(l:ae TV):aq {c:Int // l=[.ex (.int c)]}:=match l with
 |[.ex (.int c)]=>af ⟨c,rfl⟩
 |_=>none
noncomputable def isMul(op:cH):aq {u:e6 // op= .Mult}:=match op with
 | .Mult=>af ⟨(),rfl⟩
 |_=>none
theorem Qu(c:Int)(n:Nat):Qt (xd [.int c] n)= .il (eU n c):=by unfold Qt; rw[Dq,CM]
def Xh(op:cH)(t u:TV)(s:AS):aq (ae (TV×AS)):=ob (isMul op) λ aa=>ob (vO t s) λ c=>ob (one? c.1.2) λ x=>ob (lz u) λ n=>nB (decide (0<=n.1/\n.1 < 1000)) (af [(.ex (.own s.mem.length),⟨s.loc,s.mem++[QS x.1 n.1.toNat]⟩)])
theorem OL{op:cH}{t u:TV}{s:AS}{outs:ae (TV×AS)}{a b:AV}{σ:St}(h:Xh op t u s=af outs)(ga:GV t a)(gb:GV u b)(gs:GS s σ):D2 (BZ op a b σ) GV outs:=
 ob.u h λ m aa h=>ob.u h λ c aa h=>ob.u h λ x aa h=>ob.u h λ n aa h=>nB.u h λ hn h=>m.2▸(lC gb n.2).symm▸gs.lst c ga (Q:=λ a=>D2 (BZ .Mult a (.int n.1) σ) GV outs) λ us m1 g=>(x.2▸g:dH [.ex (.int x.1)] us).u1 (Q:=λ us=>bM σ.mem c.1.1=af (.lst us)->D2 (BZ .Mult (.own c.1.1) (.int n.1) σ) GV outs) (λ v gv m1=>
  have gv:v= .int x.1:=gv
  D2.one (a:=AV.own σ.mem.length) (σ:=⟨σ.loc,σ.mem++[.il (eU n.1.toNat x.1)]⟩) h (ah AV.own gs.mem.len.symm) ⟨gs.loc,gs.mem.app (HF σ.mem x.1 n.1.toNat).1 (HF σ.mem x.1 n.1.toNat).2⟩ λ K k=>dI (m1.trans (ah (λ v=>af (AO.lst [v])) gv))
   (T7 ⟨(bg hn).1,(bg hn).2,(by decide:1 < 1000)⟩ ((Qu x.1 n.1.toNat).symm▸k))) m1
def Mp(a:AV)(m:ae AO):aq {xs:ae AV // ∀K:ae AV->Prop,K xs->nt a m K}:=match a with
 | .own p=>jS (bM m p) λ o ho=>match o,ho with
  | .lst xs,ho=>af ⟨xs,λ K z=>dI ho z⟩
  | .il ns,ho=>af ⟨bX ns,λ K z=>dI ho z⟩
  |_,_=>none
 | .row ns=>af ⟨bX ns,λ K z=>z⟩
 | .lst xs=>af ⟨xs,λ K z=>z⟩
 |_=>none
noncomputable def acB(a:AV):aq {i:Int // a= .int i}:=match a with
 | .int i=>af ⟨i,rfl⟩
 |_=>none
def ET(op:cH)(a b:AV)(σ:St):aq {r:AV×St // tF (O6 op a b σ) r}:=match op with
 | .Add=>ob (Mp a σ.mem) λ xs=>ob (Mp b σ.mem) λ ys=>bE (bB xs.1.length 1000&&bB ys.1.length 1000) λ h=>af ⟨(.own σ.mem.length,⟨σ.loc,σ.mem++[Qt (Ep xs.1 ys.1)]⟩),λ K z=>xs.2 _ (ys.2 _ (cK.i h z))⟩
 | .Mult=>ob (Mp a σ.mem) λ xs=>ob (acB b) λ n=>bE (decide (0<=n.1/\n.1 < 1000/\xs.1.length < 1000)) λ h=>af ⟨(.own σ.mem.length,⟨σ.loc,σ.mem++[Qt (xd xs.1 n.1.toNat)]⟩),λ K z=>xs.2 _ (n.2.symm▸T7 (bg h) z)⟩
 |_=>none
def XZ(op:cH)(a b:AV)(σ:St):aq {r:AV×St // tF (BZ op a b σ) r}:=match a with
 | .own p=>ET op (.own p) b σ
 | .row p=>ET op (.row p) b σ
 | .lst p=>ET op (.lst p) b σ
 |_=>none
def R2(op:cH)(t u:TV)(s:AS):aq (ae (TV×AS)):=oe (Kk op t u s) (oe (Xh op t u s) (ex2 (XZ op) t u s))
theorem O7{op:cH}{t u:TV}{s:AS}{outs:ae (TV×AS)}{a b:AV}{σ:St}(h:R2 op t u s=af outs)(ga:GV t a)(gb:GV u b)(gs:GS s σ):D2 (BZ op a b σ) GV outs:=by
 rcases sU h with h|h
 ·rcases sU h with h|h
  ·obtain⟨i,j,rfl,rfl,z⟩:=BN h ga gb gs; exact z
  rcases sU h with h|h
  ·obtain⟨i,j,rfl,rfl,z⟩:=BO h ga gb gs; exact z
  ·have z:=BL h ga gb gs
   obtain⟨_,_,h⟩:=MH h
   obtain⟨p,_,h⟩:=MH h
   obtain⟨q,_,h⟩:=MH h
   obtain⟨i,rfl⟩:=p.2 _ ga
   obtain⟨j,rfl⟩:=q.2 _ gb
   exact z
 ·exact oe.v h (λ h=>OL h ga gb gs) λ h=>Ul _ _ _ _ _ _ _ h ga gb gs
def N6(l:SE P ct)(op:cH)(r:SE P ct)(p:c9):SE P ct where
 bA:= .BinOp l.bA op r.bA p
 run:=λ σ K=>l.run σ λ a aI=>r.run aI λ b aW=>BZ op a b aW K
 ch:=l.ch&&r.ch
 star:=λ aa aa=>rfl
 ok:=λ c F G ρ σ s Kv O R h=>X.BinOp (SE.then l r (aF c).1 (aF c).2 O R h λ G' ρ' a b u v b8 s' g x R' va vb k=>CV g x (Ez R' va vb k))
 ab:=R9 l.ab r.ab (R2 op)
 cO:=λ fo=>rU fo λ t u s outs a b σ h ga gb gs=>O7 h ga gb gs
end
mutual
noncomputable def dep:AV->Nat
 | .tup xs=>z4 xs+1
 | .lst xs=>z4 xs+1
 | .row _=>1
 | .int _=>0
 |_=>0
noncomputable def z4:ae AV->Nat
 |[]=>0
 |x::r=>max (dep x) (z4 r)
end
mutual
noncomputable def plainT:AV->aC
 | .tup xs=>pb xs
 | .lst xs=>pb xs
 | .row _=>true
 | .int _=>true
 |_=>false
noncomputable def pb:ae AV->aC
 |[]=>true
 |x::r=>plainT x&&pb r
end
section
open SeqAt
variable{G:BM}{ρ:ae au}{s:ar}{A:bn}{a b:au}{vs ws:bD ak}
theorem pG.isTup{h:Heap}{a:au}{o:Obj}{vs:bD ak}(ho:h.get? a=af o)(t:pG o vs):h.IsTuple a vs:=⟨o,ho,t.1,t.2⟩
theorem all_true{n:Nat}{e:Nat->aC}(h:∀j,j < n->e j=true):(eB n).all e=true:=aZ.mpr λ j hj=>h j (q_.mp hj)
noncomputable abbrev oP(A:bn)(s:ar)(us vs:ae ak):Prop:=∀(j:Nat) (u v:ak),us[j]?=af u->vs[j]?=af v->EqAt A s u v true
theorem oP.cons{u v:ak}{us vs:ae ak}(h:EqAt A s u v true)(k:oP A s us vs):oP A s (u::us) (v::vs):=λ j x y=>match j with
 |0=>λ e e'=>am e▸am e'▸h
 |j+1=>k j x y
theorem oP.arr(k:oP A s vs.toList ws.toList)(j:Nat)(h1:j < vs.size)(h2:j < ws.size):EqAt A s vs[j] ws[j] ((λ aa=>true) j):=k j _ _ (bP.trans (e9 h1)) (bP.trans (e9 h2))
theorem Mt(h1:s.heap.IsList a vs)(h2:s.heap.IsList b ws)(e:vs.size=ws.size)(hA:A.units < qQ)(k:oP A.in1 s vs.toList ws.toList):RcAt A s (.ref a) (.ref b) true:=all_true (n:=vs.size) (e:=λ aa=>true) (λ aa aa=>rfl)▸RcAt.lists (e:=λ aa=>true) h1 h2 e hA k.arr
theorem Mr(h1:s.heap.IsList a vs)(h2:s.heap.IsList b ws)(e:vs.size=ws.size)(hA:A.units < qQ)(k:oP A.in1 s vs.toList ws.toList):EqAt A s (.ref a) (.ref b) true:=
 (d5 (a=b)).elim (λ h=>h▸EqAt.same _) λ h=>EqAt.of_refs h (Mt h1 h2 e hA k)
theorem Wi(h1:s.heap.IsTuple a vs)(h2:s.heap.IsTuple b ws)(e:vs.size=ws.size)(hA:A.units < qQ)(k:oP A.in1 s vs.toList ws.toList):EqAt A s (.ref a) (.ref b) true:=
 (d5 (a=b)).elim (λ h=>h▸EqAt.same _) λ h=>EqAt.of_refs h ((bN.mpr ⟨all_true λ aa aa=>rfl,a_.mpr e⟩:((eB (min vs.size ws.size)).all (λ aa=>true)&&vs.size==ws.size)=true)▸RcAt.tuples (e:=λ aa=>true) h1 h2 hA k.arr)
theorem LX{i:Int}{t t':kx}:EqAt A s (.int i t) (.int i t') true:=(qS i:(i==i)=true)▸EqAt.int_int i t i t'
theorem G8:∀{ns:ae Int} {us vs:ae ak},cx ns us->cx ns vs->oP A s us vs
 |[],_,_=>λ h aa=>h.u0 (Q:=λ us=>oP A s us _) λ aa aa aa e=>cm e
 |n::r,us,vs=>λ h k=>h.uc (Q:=λ us=>oP A s us vs) λ t us h=>k.uc (Q:=λ vs=>oP A s (.int n t::us) vs) λ t' vs k=>oP.cons LX (G8 h k)
theorem NU{n d:Nat}(h:n+(d+1) < qQ):n+1+d < qQ:=aU (aV (cV n 1 d)) h
theorem NV{n d:Nat}(h:n+d < qQ):n < qQ:=aU (bq _ _) h
theorem HV{xs:ae AV}(h:bJ G ρ xs vs.toList)(k:bJ G ρ xs ws.toList):vs.size=ws.size:=bh.symm.trans ((h.length.trans k.length.symm).trans bh)
mutual
theorem Rx(kg:∀a o,G a=af o->s.heap.get? a=af o):∀(t:AV) (A:bn) {u v:ak},plainT t=true->A.units+dep t < qQ->VR G ρ t u->VR G ρ t v->EqAt A s u v true
 | .int i,A,u,v=>λ aa aa hu hv=>hu.iu (Q:=λ u=>EqAt A s u v true) λ t=>hv.iu (Q:=λ v=>EqAt A s (.int i t) v true) λ t'=>LX
 | .row ns,A,u,v=>λ aa hA hu hv=>hu.Dr (Q:=λ u=>EqAt A s u v true) λ a o vs g1 l1 r1=>hv.Dr (Q:=λ v=>EqAt A s (.ref a) v true) λ b o' ws g2 l2 r2=>Mr ⟨o,kg _ _ g1,l1.is⟩ ⟨o',kg _ _ g2,l2.is⟩ (bh.symm.trans ((r1.length.trans r2.length.symm).trans bh)) (NV hA) (G8 r1 r2)
 | .lst xs,A,u,v=>λ hp hA hu hv=>hu.lstU (Q:=λ u=>EqAt A s u v true) λ a o vs g1 l1 r1=>hv.lstU (Q:=λ v=>EqAt A s (.ref a) v true) λ b o' ws g2 l2 r2=>Mr ⟨o,kg _ _ g1,l1.is⟩ ⟨o',kg _ _ g2,l2.is⟩ (HV r1 r2) (NV hA) (tg kg xs A.in1 hp (NU hA) r1 r2)
 | .tup xs,A,u,v=>λ hp hA hu hv=>hu.Jy (Q:=λ u=>EqAt A s u v true) λ a o vs g1 l1 r1=>hv.Jy (Q:=λ v=>EqAt A s (.ref a) v true) λ b o' ws g2 l2 r2=>Wi (l1.isTup (kg _ _ g1)) (l2.isTup (kg _ _ g2)) (HV r1 r2) (NV hA) (tg kg xs A.in1 hp (NU hA) r1 r2)
 | .undef,_,_,_=>λ h=>ay h
 | .none,_,_,_=>λ h=>ay h
 | .bool _,_,_,_=>λ h=>ay h
 | .j9 _,_,_,_=>λ h=>ay h
 | .own _,_,_,_=>λ h=>ay h
 | .val _,_,_,_=>λ h=>ay h
 | .fn _,_,_,_=>λ h=>ay h
 | .lq _,_,_,_=>λ h=>ay h
 | .m9 _,_,_,_=>λ h=>ay h
 | .inst _ _ _,_,_,_=>λ h=>ay h
 | .any,_,_,_=>λ h=>ay h
 | .j_ _ _ _,_,_,_=>λ h=>ay h
 | .iO _ _,_,_,_=>λ h=>ay h
 | .bG _ _,_,_,_=>λ h=>ay h
theorem tg(kg:∀a o,G a=af o->s.heap.get? a=af o):∀(xs:ae AV) (A:bn) {us vs:ae ak},pb xs=true->A.units+z4 xs < qQ->bJ G ρ xs us->bJ G ρ xs vs->oP A s us vs
 |[],A,us,vs=>λ aa aa h aa=>h.u0 (Q:=λ us=>oP A s us vs) λ aa aa aa e=>cm e
 |x::r,A,us,vs=>λ hp hA h k=>h.uc (Q:=λ us=>oP A s us vs) λ u us h1 h2=>k.uc (Q:=λ vs=>oP A s (u::us) vs) λ v vs k1 k2=>oP.cons (Rx kg x A (aF hp).1 (aU (hN (Nat.le_max_left _ _) _) hA) h1 k1)
  (tg kg r A (aF hp).2 (aU (hN (Nat.le_max_right _ _) _) hA) h2 k2)
end
end
section
open SeqAt
variable{P:cC}{ct:Ct}
def GH(ne:aC)(a b:AV)(mem:ae AO)(K:aC->Prop):Prop:=nt a mem λ xs=>nt b mem λ ys=>
 (xs=ys/\pb xs=true/\z4 xs < 30/\K (!ne))\/(xs.length≠ys.length/\K ne)
section
variable{F:Fd}{G:BM}{ρ:ae au}{σ:St}{s:ar}{a b:AV}{u v:ak}{Q:ak->ar->Prop}{K:aC->Prop}
theorem gO.un(O:gO P ct F){d:Nat}(h:d < 100):F.A.units+d < qQ:=fw (Nat.add_lt_add (aU (bq _ _) O.room.2.1) h) (by decide)
theorem uw{ne:aC}(O:gO P ct F)(R:RF F ct.aS G ρ σ s)(va:VR G ρ a u)(vb:VR G ρ b v)(h:GH ne a b σ.mem K)(q:∀c,K c->Q (.bool c) s):aH (aE P.prog P.w) F.A (dz (aY ne .NotEq .Eq) u v) Q dw s:=
 nt.u (Q:=λ u=>aH (aE P.prog P.w) F.A (dz (aY ne .NotEq .Eq) u v) Q dw s) h R va λ l o us xs ho hl hv h=>h.u (Q:=λ v=>aH (aE P.prog P.w) F.A (dz (aY ne .NotEq .Eq) (.ref l) v) Q dw s) R vb λ l2 o2 ws ys UQ hl2 hw h=>by
  have hu:F.A.units < qQ:=O.un (d:=0) (by decide)
  have L1:s.heap.IsList l us:=⟨o,ho,hl.is⟩
  have L2:s.heap.IsList l2 ws:=⟨o2,UQ,hl2.is⟩
  rcases h with⟨rfl,hp,hd,hk⟩|⟨hn,hk⟩
  ·have k:oP F.A.in1 s us.toList ws.toList:=tg R.rm.kg xs F.A.in1 hp (NU (O.un (b_ (gj hd) (by decide)))) hv hw
   cases ne with
   |false=>exact Mt L1 L2 (HV hv hw) hu k _ _ _ _ (q _ hk)
   |true=>exact(ah (λ b=>RcNeAt F.A s (.ref l) (.ref l2) (!b)) (all_true (n:=us.size) (e:=λ aa=>true) λ aa aa=>rfl)).mp (RcNeAt.lists (e:=λ aa=>true) L1 L2 (HV hv hw) hu k.arr) _ _ _ _ (q _ hk)
  ·have hs:(us.size !=ws.size)=true:=rS.mpr λ e=>hn ((nh hv).symm.trans (e.trans (nh hw)))
   cases ne with
   |false=>exact RcAt.lists_lengths L1 L2 hs hu _ _ _ _ (q _ hk)
   |true=>exact RcNeAt.lists_lengths L1 L2 hs hu _ _ _ _ (q _ hk)
noncomputable def qa(neg:aC)(a b:AV)(mem:ae AO)(K:aC->Prop):Prop:=match a with
 | .int i=>lY b mem λ ns=>K (neg ^^ CB ns i)
 |a=>md b mem λ ks aa=>Dg a λ k=>K (neg ^^ pH ks k)
where CB:ae Int->Int->aC
 |[],_=>false
 |x::r,i=>aY (decide (x=i)) true (CB r i)
noncomputable def SH(i:Int)(v:ak):aC:=match v with
 | .int j _=>j==i
 |_=>false
theorem CC{A:bn}{i:Int}{t:kx}:∀{ns:ae Int} {vs:ae ak},cx ns vs->vs.any (SH i)=qa.CB ns i/\∀y∈vs,EqAt A s y (.int i t) (SH i y)
 |[],_=>λ h=>h.u0 (Q:=λ vs=>vs.any (SH i)=false/\∀y∈vs,EqAt A s y (.int i t) (SH i y)) ⟨rfl,λ y hy=>bt hy bK⟩
 |x::r,_=>λ h=>h.uc (Q:=λ vs=>vs.any (SH i)=qa.CB (x::r) i/\∀y∈vs,EqAt A s y (.int i t) (SH i y)) λ t' vs h=>have z:=CC (A:=A) (t:=t) h
  ⟨by
   show(x==i||vs.any (SH i))=aY (decide (x=i)) true (qa.CB r i)
   rw[z.1]
   by_cases q:x=i
   ·rw[cz q,a_.mpr q]; rfl
   ·rw[dj q,ed.mpr q]; rfl,aJ.mpr ⟨EqAt.int_int x t' i t,z.2⟩⟩
theorem Ca{neg:aC}(O:gO P ct F)(R:RF F ct.aS G ρ σ s)(va:VR G ρ a u)(vb:VR G ρ b v)(h:md b σ.mem λ ks aa=>Dg a λ k=>K (neg ^^ pH ks k))
  (q:∀c t,K c->Q (.bool c) {s with toks:=t}):aH (aE P.prog P.w) F.A (dz (aY neg .NotIn .In) u v) Q dw s:=by
 rcases lK O R vb h with⟨d,ob,xs,ks,dx,rfl,ho,hc,ns,D,e1,e2,e3,h⟩
 refine G5 O R ns D e1 e2 λ room Br key aa=>(sW va h).elim λ k z=>z.elim λ ka z=>z.1.symm▸?_
 have hh:=wS (n:=k) e1
 cases neg with
 |false=>exact wpAny_in_heap room (key z.2.1) Br D (q _ _ (hh.symm▸(ah K (Bool.false_xor _)).mp z.2.2))
 |true=>exact PyProof.Rows.wpAny_notIn_heap room (key z.2.1) Br D (q _ _ (hh.symm▸(ah K (Bool.true_xor _)).mp z.2.2))
theorem Pg{neg:aC}(h:qa neg a b σ.mem K){Q:AV->Prop}(k:∀i,(lY b σ.mem λ ns=>K (neg ^^ qa.CB ns i))->Q (.int i))(k':(md b σ.mem λ ks aa=>Dg a λ k=>K (neg ^^ pH ks k))->Q a):Q a:=by
 rcases a with _|_|_|i|_|_|_|_|_|_|_|_|_|_|_|_|_|_
 case int=>exact k i h
 all_goals exact k' h
theorem uu{neg:aC}(O:gO P ct F)(R:RF F ct.aS G ρ σ s)(va:VR G ρ a u)(vb:VR G ρ b v)(h:qa neg a b σ.mem K)
  (q:∀c t,K c->Q (.bool c) {s with toks:=t}):aH (aE P.prog P.w) F.A (dz (aY neg .NotIn .In) u v) Q dw s:=
 Pg h (Q:=λ a=>VR G ρ a u->aH (aE P.prog P.w) F.A (dz (aY neg .NotIn .In) u v) Q dw s) (λ i h va=>va.iu (Q:=λ u=>aH (aE P.prog P.w) F.A (dz (aY neg .NotIn .In) u v) Q dw s) λ t=>h.u (Q:=λ v=>aH (aE P.prog P.w) F.A (dz (aY neg .NotIn .In) (.int i t) v) Q dw s) R vb λ l o us ns ho hl hi h=>by
  have z:=CC (A:=F.A.in1) (s:=s) (i:=i) (t:=t) hi
  have L:s.heap.IsList l us:=⟨o,ho,hl.is⟩
  have ha:us.any (SH i)=qa.CB ns i:=uO.symm.trans z.1
  cases neg with
  |false=>exact in_listAt _ L (λ y hy=>z.2 y (gM.mpr hy)) (q _ s.toks (ha.symm▸(ah K (Bool.false_xor _)).mp h))
  |true=>exact notIn_listAt _ L (λ y hy=>z.2 y (gM.mpr hy)) (q _ s.toks (ha.symm▸(ah K (Bool.true_xor _)).mp h))) (λ h va=>Ca O R va vb h q) va
def Sm(a b:AV)(mem:ae AO)(K:aC->Prop):Prop:=lL a λ p=>pJ mem p λ o=>De o λ bs=>I9 b λ cs=>K (bs !=cs)
theorem B5(O:gO P ct F)(R:RF F ct.aS G ρ σ s)(va:VR G ρ a u)(vb:VR G ρ b v)(h:Sm a b σ.mem K)(q:∀c,K c->Q (.bool c) s):aH (aE P.prog P.w) F.A (dz .NotEq u v) Q dw s:=
 lL.u (Q:=λ a=>VR G ρ a u->aH (aE P.prog P.w) F.A (dz .NotEq u v) Q dw s) h (λ p h va=>h.u λ o e h=>R.own va e (Q:=λ u=>aH (aE P.prog P.w) F.A (dz .NotEq u v) Q dw s) λ adr ob aa h1 w=>De.u (Q:=λ o=>OR G ρ o ob->aH (aE P.prog P.w) F.A (dz .NotEq (.ref adr) v) Q dw s) h (λ bs h w=>
  I9.u (Q:=λ b=>VR G ρ b v->aH (aE P.prog P.w) F.A (dz .NotEq (.ref adr) v) Q dw s) h (λ cs h vb=>vb.Pa (Q:=λ v=>aH (aE P.prog P.w) F.A (dz .NotEq (.ref adr) v) Q dw s) λ t=>Xs ((show ob=nO bs from w)▸h1) (O.un (d:=0) (by decide)) (q _ h)) vb) w) va
set_option genCtorIdx true
inductive CK where
 |sw|Om|Yz|Y7|neB
noncomputable def CK.op:CK->ke
 | .sw=> .Eq | .Om=> .NotEq | .Yz=> .In | .Y7=> .NotIn | .neB=> .NotEq
def re(k:CK)(a b:AV)(mem:ae AO)(K:aC->Prop):Prop:=match k with
 | .sw=>GH false a b mem K
 | .Om=>GH true a b mem K
 | .Yz=>qa false a b mem K
 | .Y7=>qa true a b mem K
 | .neB=>Sm a b mem K
theorem uv{k:CK}(O:gO P ct F)(R:RF F ct.aS G ρ σ s)(va:VR G ρ a u)(vb:VR G ρ b v)(h:re k a b σ.mem K)(q:∀c t,K c->Q (.bool c) {s with toks:=t}):aH (aE P.prog P.w) F.A (dz k.op u v) Q dw s:=by
 cases k with
 |sw=>exact uw O R va vb h λ c h=>q c s.toks h
 |Om=>exact uw O R va vb h λ c h=>q c s.toks h
 |Yz=>exact uu O R va vb h q
 |Y7=>exact uu O R va vb h q
 |neB=>exact B5 O R va vb h λ c h=>q c s.toks h
end
abbrev WY(k:CK)(a b:AV)(m:ae AO)(c:aC):Prop:=∀K:aC->Prop,K c->re k a b m K
def X3(ne:aC)(a b:AV)(m:ae AO):aq {c:aC // ∀K:aC->Prop,K c->GH ne a b m K}:=ob (Mp a m) λ xs=>ob (Mp b m) λ ys=>bE (!aT xs.1.length ys.1.length) λ h=>af ⟨ne,λ K z=>xs.2 _ (ys.2 _ (.inr ⟨pP (nb h),z⟩))⟩
def X2(neg:aC)(a b:AV)(m:ae AO):aq {c:aC // ∀K:aC->Prop,K c->qa neg a b m K}:=match a with
 | .int i=>ob (LZ b m) λ ns=>af ⟨neg ^^ qa.CB ns.1 i,λ K z=>ns.2 _ z⟩
 |_=>none
def X0(k:CK)(a b:AV)(m:ae AO):aq {c:aC // WY k a b m c}:=match k with
 | .Yz=>X2 false a b m
 | .Y7=>X2 true a b m
 | .sw=>X3 false a b m
 | .Om=>X3 true a b m
 |_=>none
def R6(k:CK)(t u:TV)(s:AS):aq (ae (aC×AS)):=ob (toAV t) λ a=>ob (toAV u) λ b=>ob (toSt s) λ σ=>ob (X0 k a.1 b.1 σ.1.mem) λ c=>af [(c.1,s)]
theorem Kl{k:CK}{t u:TV}{s:AS}{outs:ae (aC×AS)}{a b:AV}{σ:St}(h:R6 k t u s=af outs)(ga:GV t a)(gb:GV u b)(gs:GS s σ):D2 (λ K=>re k a b σ.mem λ c=>K c σ) Eq outs:=
 ob.u h λ a' aa h=>ob.u h λ b' aa h=>ob.u h λ b8 aa h=>ob.u h λ c aa h=>D2.one h rfl gs λ K z=>(a'.2 _ ga).symm▸(b'.2 _ gb).symm▸(ah St.mem (b8.2 _ gs)).symm▸c.2 _ z
def Tf(l:SE P ct)(k:CK)(r:SE P ct)(p:c9):ST P ct where
 bA:= .Compare l.bA [k.op] [r.bA] p
 run:=λ σ K=>l.run σ λ a aI=>r.run aI λ b aW=>re k a b aW.mem λ c=>K c aW
 ch:=vG 3 r.bA&&(l.ch&&r.ch)
 ok:=λ c F G ρ σ s Kv O R h=>have d:=(xt (aF c).1).2; have c:=(aF c).2; X.isTrue_Compare1 (d _) (SE.then l r (aF c).1 (aF c).2 O R h λ G' ρ' a b u v b8 s' g x R' va vb kk=>
  X.any (uv O R' va vb kk λ c t hk=>X.any (pN ⟨G',ρ',b8,g,x,R'.toks t,hk⟩)))
 ab:=R9 l.ab r.ab (R6 k)
 cO:=λ fo=>rU fo λ t u s outs a b σ h ga gb gs=>Kl h ga gb gs
noncomputable def aap(l:SE P ct)(k:CK)(r:SE P ct)(p:c9):SE P ct where
 bA:= .Compare l.bA [k.op] [r.bA] p
 run:=λ σ K=>l.run σ λ a aI=>r.run aI λ b aW=>re k a b aW.mem λ c=>K (.bool c) aW
 ch:=vG 3 r.bA&&(l.ch&&r.ch)
 star:=λ aa aa=>rfl
 ok:=λ c F G ρ σ s Kv O R h=>have d:=(xt (aF c).1).2; have c:=(aF c).2; X.BG (d _) (SE.then l r (aF c).1 (aF c).2 O R h λ G' ρ' a b u v b8 s' g x R' va vb kk=>
  X.any (uv O R' va vb kk λ c t hk=>PE.up g x (PE.here (R'.toks t) VR.KO hk)))
noncomputable def tOr(l r:ST P ct)(p:c9):ST P ct where
 bA:= .BoolOp .Or [l.bA,r.bA] p
 run:=λ σ K=>l.run σ λ c aI=>aY c (K true aI) (r.run aI K)
 ch:=l.ch&&r.ch
 ok:=λ c F G ρ σ s Kv O R h=>by
  show WP P F.A (do match JG,← kW l.bA F.env (eval l.bA F.env) with | .And,false=>pure false | .Or,true=>pure true|_,_=>(do match JG,← kW r.bA F.env (eval r.bA F.env) with | .And,false=>pure false | .Or,true=>pure true|_,_=>pure (JG== .And))) _ s
  refine X.cM (X.mono (l.ok (aF c).1 F G ρ σ s _ O R h) λ b s₁ z=>z.u λ dW c8 aI fQ fu dS bH=>?_)
  cases b with
  |true=>exact X.ret ⟨dW,c8,aI,fQ,fu,dS,bH⟩
  |false=>
   refine X.cM (X.mono (r.ok (aF c).2 F dW c8 aI s₁ _ O dS bH) λ b bp z=>?_)
   cases b<;>exact X.ret (PB.up fQ fu z)
 ab:=λ s=>bO (l.ab s) λ c s=>aY c (af [(true,s)]) (r.ab s)
 cO:=λ fo s outs h σ gs=>(l.cO fo).bind (C:=λ c aI K=>aY c (K true aI) (r.run aI K)) h gs λ c s l h c' σ ga gs=>by
  cases ga
  cases c
  ·exact r.cO fo s l h σ gs
  ·exact D2.one (a:=true) h rfl gs λ K k=>k
noncomputable def adv(l r:ST P ct)(p:c9):ST P ct where
 bA:= .BoolOp .And [l.bA,r.bA] p
 run:=λ σ K=>l.run σ λ c aI=>aY c (r.run aI K) (K false aI)
 ch:=l.ch&&r.ch
 ok:=λ c F G ρ σ s Kv O R h=>by
  show WP P F.A (do match F6,← kW l.bA F.env (eval l.bA F.env) with | .And,false=>pure false | .Or,true=>pure true|_,_=>(do match F6,← kW r.bA F.env (eval r.bA F.env) with | .And,false=>pure false | .Or,true=>pure true|_,_=>pure (F6== .And))) _ s
  refine X.cM (X.mono (l.ok (aF c).1 F G ρ σ s _ O R h) λ b s₁ z=>z.u λ dW c8 aI fQ fu dS bH=>?_)
  cases b with
  |false=>exact X.ret ⟨dW,c8,aI,fQ,fu,dS,bH⟩
  |true=>
   refine X.cM (X.mono (r.ok (aF c).2 F dW c8 aI s₁ _ O dS bH) λ b bp z=>?_)
   cases b<;>exact X.ret (PB.up fQ fu z)
 ab:=λ s=>bO (l.ab s) λ c s=>aY c (r.ab s) (af [(false,s)])
 cO:=λ fo s outs h σ gs=>(l.cO fo).bind (C:=λ c aI K=>aY c (r.run aI K) (K false aI)) h gs λ c s l h c' σ ga gs=>by
  cases ga
  cases c
  ·exact D2.one (a:=false) h rfl gs λ K k=>k
  ·exact r.cO fo s l h σ gs
def gtN(o:AO)(i:AV)(K:AV->Prop):Prop:=match o with
 | .lst xs=>kj i λ n=>need (n < 0/\-1000 < n/\-n<=xs.length) (K (fE xs (n+xs.length).toNat))
 | .ba bs=>kj i λ n=>need (n= -1/\0 < bs.length) (K (.int (bs.getLastD 0).toNat))
 |_=>False
def UB(a i:AV)(mem:ae AO)(K:AV->Prop):Prop:=lL a λ p=>pJ mem p λ o=>gtN o i K
theorem Vn{n:Int}{l:Nat}(h:n < 0/\-1000 < n/\-n<=l):(n+l).toNat < l:=(mZ (by omega)).mpr (by omega)
theorem IX{F:Fd}{G:BM}{ρ:ae au}{σ:St}{s:ar}{Kv:AV->St->Prop}{a i:AV}{u v:ak}(O:gO P ct F)(R:RF F ct.aS G ρ σ s)(va:VR G ρ a u)(vi:VR G ρ i v)(h:UB a i σ.mem λ x=>Kv x σ):lH P.prog P.w F.A u v (PE F ct.aS G ρ Kv) s:=
 lL.u (Q:=λ a=>VR G ρ a u->lH P.prog P.w F.A u v (PE F ct.aS G ρ Kv) s) h (λ p h va=>h.u λ o e h=>R.own va e (Q:=λ u=>lH P.prog P.w F.A u v (PE F ct.aS G ρ Kv) s) λ adr ob aa h1 q=>by
  rcases o with xs|_|_|_|_|_|bs|_
  case lst=>
   exact aD q λ vs q=>kj.u (Q:=λ v=>lH P.prog P.w F.A (.ref adr) v (PE F ct.aS G ρ Kv) s) h vi λ n t h=>h.u λ hb h=>(q.2.get (wT xs (n+xs.length).toNat (Vn hb))).elim λ x hx=>
    have e1:(vs.size:Int)=xs.length:=ah Int.ofNat (nh q.2)
    have L:s.heap.IsList adr vs:=⟨ob,h1,q.1.is⟩
    ⟨"list",_,L.typeIs,Be.lookup,wpAny_getItem_list_neg L hb.1 (e1.symm▸Int.neg_le_of_neg_le hb.2.2) (by have:=hb.2.1; omega) (e1▸bP.symm.trans hx.1) (PE.here R hx.2 h)⟩
  case ba=>
   have q':ob=nO bs:=q
   exact kj.u (Q:=λ v=>lH P.prog P.w F.A (.ref adr) v (PE F ct.aS G ρ Kv) s) h vi λ n t h=>h.u λ hb h=>hb.1.symm▸⟨"bytearray",_,dd (q'▸h1),eX.lookup,Gx (q'▸h1) (fW.mp hb.2) (PE.toks R VR.mH h)⟩
  all_goals exact h.elim) va
def R7(t i:TV)(s:AS):aq (ae (TV×AS)):=ob (nU t) λ p=>ob (lz i) λ n=>jS (gW s.mem p.1) λ o ho=>ob (oLst o) λ vs=>nB (decide (n.1 < 0/\-1000 < n.1/\-n.1<=vs.1.length)) (ob (RG vs.1 (n.1+vs.1.length).toNat) λ u=>af [(u,s)])
theorem Kp{t i:TV}{s:AS}{outs:ae (TV×AS)}{a b:AV}{σ:St}(h:R7 t i s=af outs)(ga:GV t a)(gb:GV i b)(gs:GS s σ):D2 (λ K=>UB a b σ.mem λ v=>K v σ) GV outs:=
 ob.u h λ p aa h=>ob.u h λ n aa h=>jS.u h λ o ho h=>ob.u h λ vs aa h=>nB.u h λ hn h=>ob.u h λ u hu h=>(gs.vs ho vs.2 λ aa z=>z).elim λ us z=>have hl:=z.2.len; (t8 z.2 hu).elim λ v w=>
  D2.one h w.2.2 gs λ K k=>(lC ga p.2).symm▸(lC gb n.2).symm▸dI z.1 (T7 (hl.symm▸bg hn) ((ah (λ m:Nat=>fE us (n.1+m).toNat) hl).trans w.2.1▸k))
def aav(o i:SE P ct)(p:c9):SE P ct where
 bA:= .Subscript o.bA i.bA p
 run:=λ σ K=>o.run σ λ a aI=>i.run aI λ b aW=>UB a b aW.mem λ v=>K v aW
 ch:=vG 1 i.bA&&(o.ch&&i.ch)
 star:=λ aa aa=>rfl
 ok:=λ c F G ρ σ s Kv O R h=>X.Subscript (SE.then o i (aF (aF c).2).1 (aF (aF c).2).2 O R h λ G' ρ' a b u v b8 s' g x R' va vb k=>(IX O R' va vb k).elim λ T z=>z.elim λ id z=>CV g x (tail_any z.1 z.2.1 z.2.2 ((HN (aF c).1).1 _ _)))
 ab:=R9 o.ab i.ab R7
 cO:=λ fo=>rU fo λ t u s outs a b σ h ga gb gs=>Kp h ga gb gs
end
set_option genCtorIdx false
section
variable{P:cC}{ct:Ct}
theorem DC{F:Fd}{G:BM}{ρ:ae au}(O:gO P ct F):∀(ns:ae hO) (dx:ae AV) (us:ae ak) (σ:St) (s:ar) {K:St->Prop},jF ct ns=true->RF F ct.aS G ρ σ s->bJ G ρ dx us->qk ns dx σ K->
  aH (aE P.prog P.w) F.A (gG (ns.map λ n=>m6 F.env n.2.1) us) (λ aa s'=>∃b8,RF F ct.aS G ρ b8 s'/\K b8) dw s
 |[],[],us,σ,s,K=>λ c R va h=>va.u0 (Q:=λ us=>aH (aE P.prog P.w) F.A (gG [] us) (λ aa s'=>∃b8,RF F ct.aS G ρ b8 s'/\K b8) dw s) (aw ⟨σ,R,h⟩)
 |[],_::_,_,_,_,_=>λ aa aa aa h=>h.elim
 |_::_,[],_,_,_,_=>λ aa aa aa h=>h.elim
 |n::r,v::vs,us,σ,s,K=>λ c R va h=>va.uc (Q:=λ us=>aH (aE P.prog P.w) F.A (gG ((n::r).map λ n:hO=>m6 F.env n.2.1) us) (λ aa s'=>∃b8,RF F ct.aS G ρ b8 s'/\K b8) dw s) λ u ur vu vr=>
  (aj (bU (wpAny_bindName (qL O R (aF c).1 vu λ s' R'=>DC O r vs ur _ s' (aF c).2 R' vr h))):aH _ _ (do holding ur (m6 F.env n.2.1 u); gG (r.map λ n:hO=>m6 F.env n.2.1) ur) _ _ _)
theorem uL:∀(l acc:ae hO),jF ct l=true->jF ct acc=true->jF ct (l.reverseAux acc)=true
 |[],acc=>λ aa h=>h
 |n::r,acc=>λ h k=>uL r (n::acc) (aF h).2 (bN.mpr ⟨(aF h).1,k⟩)
theorem bJ.rev{G:BM}{ρ:ae au}:∀{as bs:ae AV} {vs us:ae ak},bJ G ρ as vs->bJ G ρ bs us->bJ G ρ (as.reverseAux bs) (vs.reverseAux us)
 |[],bs,_,us=>λ h k=>h.u0 (Q:=λ vs=>bJ G ρ bs (vs.reverseAux us)) k
 |a::as,bs,_,us=>λ h k=>h.uc (Q:=λ vs=>bJ G ρ ((a::as).reverseAux bs) (vs.reverseAux us)) λ v r h1 h2=>bJ.rev (as:=as) (vs:=r) (bs:=a::bs) (us:=v::us) h2 (bJ.cons h1 k)
theorem HH{α:Type}(l:ae α):(l.reverseAux []).length=l.length:=List.length_reverse
noncomputable abbrev adI(vs:ae ak):Obj:={cls:= .type "tuple",data:= .seq vs.toArray}
theorem Rq{F:Fd}{G:BM}{ρ:ae au}{σ:St}{s₁:ar}{vs:ae ak}{as:ae AV}{ns:ae hO}{K:St->Prop}{Q:mA->ar->Prop}{l:au}(O:gO P ct F)(R:RF F ct.aS G ρ σ s₁)(hl:s₁.heap.IsTuple l vs.toArray)
  (c0:jF ct ns=true) (hlen:ns.length=as.length) (va:bJ G ρ as vs) (kk:qk (ns.reverseAux []) (as.reverseAux []) σ K) (hq:∀b8 s',RF F ct.aS G ρ b8 s'->K b8->Q .next s'):
  cL P.j (aE P.prog P.w) F.A (unpackItems (.ref l) (ns.map (·.2.1)).length none) (λ items bp=>cL P.j (aE P.prog P.w) F.A (gG ((ns.map (·.2.1)).reverse.map λ n=>m6 F.env n) items.reverse) (λ aa=>Q .next) bp) s₁:=by
 have UO:(ns.map (·.2.1)).length=vs.toArray.size:=(bL _).trans ((hlen.trans va.length.symm).trans cT.symm)
 rw[UO]
 refine X.any (unpackItems_tuple O.room.2.2 hl λ h' e=>?_)
 have R3:=R.grow (s':={s₁ with heap:=h'}) (λ b o' q=>e b o' (dO (b9 q)) q) ⟨rfl,rfl,rfl⟩
 have e1:((ns.map (·.2.1)).reverse.map λ n=>m6 F.env n)=(ns.reverseAux []).map λ n=>m6 F.env n.2.1:=(ah (List.map λ n=>m6 F.env n) List.map_reverse.symm).trans (t9)
 rw[e1,show vs.toArray.toList.reverse=vs.reverseAux [] from rfl]
 exact X.any (c7 (DC O _ _ _ σ _ (uL ns [] c0 rfl) R3 (bJ.rev va bJ.nil) kk) (λ aa s' w=>w.elim λ JA w=>hq _ _ w.1 w.2) λ aa aa z=>z)
theorem dH.rev:∀{ts ve:ae TV} {us rB:ae AV},dH ts us->dH ve rB->dH (ts.reverseAux ve) (us.reverseAux rB)
 |[],ve,_,rB=>λ h g=>h.u0 (Q:=λ us=>dH ve (us.reverseAux rB)) g
 |t::ts,ve,_,rB=>λ h g=>h.uc (Q:=λ us=>dH ((t::ts).reverseAux ve) (us.reverseAux rB)) λ u r a h=>dH.rev (ts:=ts) (us:=r) h (dH.cons a g)
noncomputable def P_:aB->aC
 | .Starred .. =>true
 |_=>false
theorem Z1{x y:bI}{p1 p2 tp:c9}{k kv:Nat}{vp:c9}{a b:aB}{env:Env}(hk:env.scope.kind= .function)(h0:env.kindOf x=af .local)(h1:env.kindOf y=af .local)(hl:(p2.line==p1.line)=true)(IZ:(x==y)=false)
  (hsa:P_ a=false) (SC:P_ b=false) (hf:(mX 8 a&&mX 8 b)=false) (hc:(tx 8 a&&tx 8 b)=false):i_ [.Tuple [.Name x p1, .Name y p2] k tp] (.Tuple [a,b] kv vp) env=pure (af [x,y]):=by
 unfold i_
 have hb:(env.blockKind != .function)=false:=by unfold Env.blockKind; rw[hk]; rfl
 have hn:([x,y].filterMap λ z=>af z)=[x,y]:=rfl
 have g0:(env.kindOf x==af .local&&p1.line==(ef (λ x=>x.pos.line) [Eb x p1, .Name y p2].head?).getD 0)=true:=by rw[h0]; show(true&&(p1.line==p1.line))=true; rw[qS]; rfl
 have g1:(env.kindOf y==af .local&&p2.line==(ef (λ x=>x.pos.line) [Eb x p1, .Name y p2].head?).getD 0)=true:=by rw[h1]; exact(show(true&&(p2.line==p1.line))=true from hl)
 have hfm:∀f:aB->aq bI,f (.Name x p1)=af x->f (.Name y p2)=af y->List.filterMap f [.Name x p1, .Name y p2]=[x,y]:=λ f e1 e2=>by
  rw[jX e1,jX e2]; rfl
 have hed:[x,y].eraseDups=[x,y]:=by
  have e:(y==x)=false:=by rw[ed] at IZ ⊢; exact λ z=>IZ z.symm
  simp [List.eraseDups_cons,e]
 have ab4:∀f:aB->aC,f a=false->f b=false->[a,b].any f=false:=λ f e1 e2=>by simp [e1,e2]
 dsimp only
 rw[hfm,ab4]
 ·rw[hed,hb]
  simp only[List.all_cons,List.all_nil,Bool.and_true,hf,hc]
  rfl
 ·exact hsa
 ·exact SC
 ·dsimp only; rw[dq g0]
 ·dsimp only; rw[dq g1]
def Z0(ns:ae hO)(es:ae aB):aC:=match ns,es with
 |[n,m],[a,b]=>m.2.2.line==n.2.2.line&&(!(n.2.1==m.2.1)&&((!P_ a&&!P_ b)&&(!(mX 8 a&&mX 8 b)&&!(tx 8 a&&tx 8 b))))
 |_,_=>false
theorem Ro{ns:ae hO}{es:ae aB}{k kv:Nat}{tp vp:c9}{env:Env}(h:Z0 ns es=true)(hk:env.scope.kind= .function)(hn:∀n∈ns,env.kindOf n.2.1=af .local):i_ [.Tuple (names3 ns) k tp] (.Tuple es kv vp) env=pure (af (ns.map (·.2.1))):=by
 rcases ns with _|⟨n,_|⟨m,_|⟨_,_⟩⟩⟩
 case cons.cons.nil=>
  rcases es with _|⟨a,_|⟨b,_|⟨_,_⟩⟩⟩
  case cons.cons.nil=>
   have h1:=aF h
   have h2:=aF h1.2
   have h3:=aF h2.2
   have h4:=aF h3.1
   have h5:=aF h3.2
   exact Z1 hk (hn _ aR) (hn _ (aP _ aR)) h1.1 (nb h2.1) (nb h4.1) (nb h4.2) (nb h5.1) (nb h5.2)
  all_goals cases h
 all_goals cases h
def adm(ns:ae hO)(k:Nat)(tp:c9)(es:SL P ct)(kv:Nat)(vp p:c9):SX P ct where
 bA:= .Assign [.Tuple (names3 ns) k tp] (.Tuple es.bA kv vp) p
 run:=λ σ K=>es.run σ λ vs aI=>cK (t2 vs) (qk (ns.reverseAux []) (vs.reverseAux []) aI λ aW=>K .d8 aW)
 ch:=Z0 ns es.bA&&((jF ct ns&&ns.all λ n=>ct.names.lookup n.2.1==af .local)&&es.ch)
 ok:=λ c F G ρ σ s Kv O R h=>have hw:=(aF c).1; have c:=(aF c).2; have c1:=aF (aF c).1
  X.v7 (names:=ns.map (·.2.1)) rfl (Ro hw O.kind λ n hn=>(ah (·.lookup n.2.1) O.names).trans (a_.mp (aZ.mp c1.2 n hn))) (X.Mz (X.mono (es.ok (aF c).2 F G ρ σ s _ _ O R h) λ vs s₁ z=>z.u λ G' ρ' as b8 g x R' va kk=>kk.u λ hsh kk=>
   ⟨va.length.symm▸t3 hsh,have f:=R'.freeze (s':={s₁ with heap:=s₁.heap.push (adI vs)}) R'.K0 (aN _ rfl) (λ b o e=>aA _ e) ⟨rfl,rfl,rfl⟩
    Rq O f.1 ⟨_,aN _ rfl,rfl,_,rfl⟩ c1.1 ((HH ns).symm.trans ((xm kk).trans (HH as))) (bJ.up f.2 (Ext.refl _) _ va) kk λ JA s'' R4 k4=>PF.d8 (g.trans f.2) x R4 k4⟩))
 ab:=λ s=>bO (es.ab s) λ ts s=>nB (bB ts.length 9) (ob (Gk (ns.reverseAux []) (ts.reverseAux []) s) λ s'=>af [(.d8,s')])
 cO:=λ fo s outs h σ gs=>(es.cO fo).bind h gs λ ts s l h vs σ gv gs=>nB.u h λ hl h=>ob.u h λ s' e h=>(we e (dH.rev gv rfl) gs).elim λ b8 w=>D2.one (a:=Fl.d8) h rfl w.1 λ K z=>cK.i ((ah (bB · 9) gv.len).trans hl) (w.2 _ z)
def QH(v:AV)(K:ae AV->Prop):Prop:=match v with
 | .lst xs=>K xs
 |_=>False
theorem QH.u{v:AV}{K:ae AV->Prop}{Q:AV->Prop}(h:QH v K)(k:∀xs,K xs->Q (.lst xs)):Q v:=by
 rcases v with _|_|_|_|_|_|_|_|_|_|_|xs|_|_|_|_|_|_
 case lst=>exact k xs h
 all_goals exact h.elim
def Nx(v x y:AV)(σ:St)(K:AV->St->Prop):Prop:=QH v λ xs=>kj x λ i=>kj y λ j=>cK (bB xs.length 1000) (K (.lst ((xs.drop (mB xs.length i)).take (mB xs.length j - mB xs.length i))) σ)
theorem bJ.drop{G:BM}{ρ:ae au}:∀(n:Nat) {xs:ae AV} {vs:ae ak},bJ G ρ xs vs->bJ G ρ (xs.drop n) (vs.drop n)
 |0,_,_=>id
 |n+1,[],_=>λ h=>h.u0 (Q:=λ vs=>bJ G ρ [] (vs.drop (n+1))) bJ.nil
 |n+1,a::r,_=>λ h=>h.uc (Q:=λ vs=>bJ G ρ ((a::r).drop (n+1)) (vs.drop (n+1))) λ aa aa aa h=>bJ.drop n h
theorem bJ.take{G:BM}{ρ:ae au}:∀(n:Nat) {xs:ae AV} {vs:ae ak},bJ G ρ xs vs->bJ G ρ (xs.take n) (vs.take n)
 |0,_,_=>λ aa=>bJ.nil
 |n+1,[],_=>λ h=>h.u0 (Q:=λ vs=>bJ G ρ [] (vs.take (n+1))) bJ.nil
 |n+1,a::r,_=>λ h=>h.uc (Q:=λ vs=>bJ G ρ ((a::r).take (n+1)) (vs.take (n+1))) λ aa aa h1 h=> .cons h1 (bJ.take n h)
theorem ZV{G:BM}{ρ:ae au}{xs:ae AV}{vs:bD ak}{i j:Int}(hv:bJ G ρ xs vs.toList):bJ G ρ ((xs.drop (mB xs.length i)).take (mB xs.length j - mB xs.length i)) (slicePick vs (af i) (af j) none).toList:=by
 rw[slicePick_plain,← nh hv]
 exact bJ.take _ (bJ.drop _ hv)
theorem Ri{F:Fd}{G:BM}{ρ:ae au}{σ:St}{s:ar}{Kv:AV->St->Prop}{xs:ae AV}{l:au}{ob:Obj}{vs:bD ak}{i j:Int}{t t':kx}{o sl:aB}(R:RF F ct.aS G ρ σ s)(hG:G l=af ob)(hl:i3 ob vs)(hv:bJ G ρ xs vs.toList)(hz:bB xs.length 1000=true)
  (h:Kv (.lst ((xs.drop (mB xs.length i)).take (mB xs.length j - mB xs.length i))) σ)
  (hs:subscripted sl false (.ref l) (.ref s.heap.objs.size)=D6 [.ref s.heap.objs.size, .ref l] (getItem (.ref l) (.ref s.heap.objs.size))) (hg:∀r,iA o (.ref l) r=pure ()):
  WP P F.A (kU o sl (.ref l) (.ref s.heap.objs.size)) (PE F ct.aS G ρ Kv) {s with heap:=s.heap.push {cls:= .type "slice",data:= .fields #[.int i t, .int j t', .none]}}:=
 have S:=R.grow (s':={s with heap:=s.heap.push {cls:= .type "slice",data:= .fields #[.int i t, .int j t', .none]}}) (λ b o e=>aA _ e) ⟨rfl,rfl,rfl⟩
 have e:(s.heap.push {cls:= .type "slice",data:= .fields #[.int i t, .int j t', .none]}).objs.size=s.heap.objs.size+1:=Heap.size_push _ _
 X.any (slice_listK (items:=vs) (lo:=af i) (hi:=af j) ⟨ob,R.rm.kg _ _ hG,hl.is⟩ (.int _ _) (.int _ _) (e▸PE.fzn S S.K0 (aN _ rfl) (λ b o e=>aA _ e) ⟨rfl,rfl,rfl⟩ (λ g w=>VR.YX w ⟨_,rfl⟩ (bJ.up g (Ext.refl _) _ (ZV hv))) h) hs hg
  (aG (aV (nh hv)) (aG (aQ hz) (by decide))))
theorem Rh{F:Fd}{G:BM}{ρ:ae au}{σ:St}{s:ar}{Kv:AV->St->Prop}{v x y:AV}{u ux uy:ak}{o sl:aB}(R:RF F ct.aS G ρ σ s)(va:VR G ρ v u)(vx:VR G ρ x ux)(vy:VR G ρ y uy)(h:Nx v x y σ Kv)
  (hs:∀u b,subscripted sl false u b=D6 [b,u] (getItem u b)) (hg:∀u r,iA o u r=pure ()):
  aH (aE P.prog P.w) F.A (newFields "slice" [ux,uy, .none]) (λ b s'=>WP P F.A (kU o sl u b) (PE F ct.aS G ρ Kv) s') dw s:=by
 simp only[newFields]
 refine cP ?_ (by size_fits)
 exact QH.u (Q:=λ v=>VR G ρ v u->WP P F.A (kU o sl u (.ref s.heap.objs.size)) (PE F ct.aS G ρ Kv) {s with heap:=s.heap.push {cls:= .type "slice",data:= .fields #[ux,uy, .none]}}) h (λ xs h va=>
  h.u (Q:=λ ux=>WP P F.A (kU o sl u (.ref s.heap.objs.size)) (PE F ct.aS G ρ Kv) {s with heap:=s.heap.push {cls:= .type "slice",data:= .fields #[ux,uy, .none]}}) vx λ i t h=>
  h.u (Q:=λ uy=>WP P F.A (kU o sl u (.ref s.heap.objs.size)) (PE F ct.aS G ρ Kv) {s with heap:=s.heap.push {cls:= .type "slice",data:= .fields #[.int i t,uy, .none]}}) vy λ j t' h=>h.u λ hz h=>
  va.lstU (Q:=λ u=>WP P F.A (kU o sl u (.ref s.heap.objs.size)) (PE F ct.aS G ρ Kv) {s with heap:=s.heap.push {cls:= .type "slice",data:= .fields #[.int i t, .int j t', .none]}}) λ l ob vs w1 w2 w3=>Ri R w1 w2 w3 hz h (hs _ _) (hg _)) va
theorem Mk{e:aB}(h:isNm e=true)(u r:ak):iA e u r=pure ():=(wX h).elim λ x w=>w.elim λ q e=>e▸rfl
def Wy(o a b:SE P ct)(p2 p:c9):SE P ct where
 bA:= .Subscript o.bA (.Slice (af a.bA) (af b.bA) none p2) p
 run:=λ σ K=>o.run σ λ v aI=>a.run aI λ x aW=>b.run aW λ y dC=>Nx v x y dC K
 ab:=λ s=>bO (o.ab s) λ t s=>bO (a.ab s) λ x s=>bO (b.ab s) λ y s=>ob (toAV t) λ v=>ob (Vg v.1) λ l=>ob (lz x) λ i=>ob (lz y) λ j=>nB (bB l.1.length 1000) (af [(.ex (.lst ((l.1.drop (mB l.1.length i.1)).take (mB l.1.length j.1 - mB l.1.length i.1))),s)])
 cO:=λ fo s outs h σ gs=>(o.cO fo).bind (C:=λ v aI K=>a.run aI λ x aW=>b.run aW λ y dC=>Nx v x y dC K) h gs λ t s l h v σ gv gs=>(a.cO fo).bind (C:=λ x aW K=>b.run aW λ y dC=>Nx v x y dC K) h gs λ x s l h vx σ gx gs=>(b.cO fo).bind (C:=λ y dC K=>Nx v vx y dC K) h gs λ y s l h vy σ gy gs=>
  ob.u h λ w aa h=>ob.u h λ xs aa h=>ob.u h λ i aa h=>ob.u h λ j aa h=>nB.u h λ hn h=>(lC gx i.2).symm▸(lC gy j.2).symm▸((w.2 _ gv).trans xs.2).symm▸D2.one (a:=AV.lst ((xs.1.drop (mB xs.1.length i.1)).take (mB xs.1.length j.1 - mB xs.1.length i.1))) h rfl gs λ K z=>cK.i hn z
 star:=λ aa aa=>rfl
 ch:=isNm o.bA&&(o.ch&&(a.ch&&b.ch))
 ok:=λ c F G ρ σ s Kv O R h=>have c1:=aF c; have c2:=aF c1.2; have c3:=aF c2.2
  X.Subscript (X.mono (o.ok c2.1 F G ρ σ s _ O R h) λ u s₁ z=>z.u λ dW c8 v aI fQ fu dS va h=>
   (X.cM (X.mono (a.ok c3.1 F dW c8 aI s₁ _ O dS h) λ ua bp z=>z.u λ jr g8 x aW jk jw gP vx h=>X.cM (X.holds (X.mono (b.ok c3.2 F jr g8 aW bp _ O gP h) λ ub fY z=>z.u λ rT lg y dC kM kS lI vy h=>
    X.cM (X.holds (X.ret (X.any (c7 (Rh (o:=o.bA) lI (va.up (jk.trans kM) (jw.trans kS)) (vx.up kM kS) vy h (λ aa aa=>rfl) (Mk c1.1)) (λ b s' z=>X.mono z λ aa aa z=>PE.up (fQ.trans (jk.trans kM)) (fu.trans (jw.trans kS)) z) λ aa aa z=>z))))))):WP P F.A (do
   let l ← valueOrNone (evalOpt (af a.bA) F.env)
   let u ← holding [l] (valueOrNone (evalOpt (af b.bA) F.env))
   let s ← holding [l,u] (valueOrNone (evalOpt none F.env))
   newFields "slice" [l,u,s]) _ s₁))
end
noncomputable def i5{α β:Type}(g:α->aq β):ae α->aq (ae β)
 |[]=>af []
 |v::r=>ob (g v) λ w=>ob (i5 g r) λ l=>af (w::l)
theorem bZ{α β:Type}{g:α->aq β}{x:α}{y:β}{r:ae α}{l:ae β}(h1:g x=af y)(h2:i5 g r=af l):i5 g (x::r)=af (y::l):=
 (ah (ob · λ w=>ob (i5 g r) λ l=>af (w::l)) h1).trans (ah (ob · λ l=>af (y::l)) h2)
theorem C3{α β:Type}{g:α->aq β}:∀{l:ae α} {r:ae β},i5 g l=af r->r.length=l.length
 |[],_=>λ h=>am h▸rfl
 |_::_,_=>λ h=>ob.u h λ aa aa h=>ob.u h λ aa e h=>am h▸ah rH (C3 e)
theorem vF{α β:Type}{g:α->aq β}:∀{l:ae α} {r:ae β},i5 g l=af r->∀(i:Nat) b,r[i]?=af b->∃a,l[i]?=af a/\g a=af b
 |[],r=>λ h i b e=>cm ((am h▸e:([]:ae β)[i]?=af b))
 |v::l,r=>λ h=>ob.u h λ w e1 h=>ob.u h λ q e2 h=>am h▸λ i b=>match i with
  |0=>λ e=>⟨v,rfl,e1.trans e⟩
  |i+1=>vF e2 i b
noncomputable def Y3(l:ae AV):aq (ae Int)->AV
 |some ns=> .row ns
 |none=> .lst l
def mkT(xs:ae AV):AV:=Y3 xs (intsOf xs)
section
variable(n:Nat)(m:ae AO)(g:ae AV->aq (ae AV))
noncomputable def ZD(C:au)(o:AO):aq AV:=match o with
 | .ns ks vs=>ob (g vs) λ l=>af (.inst C ks l)
 |_=>none
def M6(o:AO):aq AV:=match o with
 | .lst xs=>ob (g xs) λ l=>af (mkT l)
 | .il ns=>af (.row ns)
 | .inst C j=>nB (bB n j) (ob (bM m j) (ZD g C))
 | .iO ks vs=>ob (g vs) λ l=>af (.iO ks l)
 | .bG ks vs=>ob (g vs) λ l=>af (.bG ks l)
 |_=>none
def ZC(v:AV):aq AV:=match v with
 | .own i=>aY (bB n i) (ob (bM m i) (M6 n m g)) (af (.own i))
 | .tup xs=>ob (g xs) λ l=>af (.tup l)
 | .lst xs=>ob (g xs) λ l=>af (.lst l)
 | .inst C ks vs=>ob (g vs) λ l=>af (.inst C ks l)
 | .iO ks vs=>ob (g vs) λ l=>af (.iO ks l)
 | .bG ks vs=>ob (g vs) λ l=>af (.bG ks l)
 |v=>af v
def resB(o:AO):aq AO:=match o with
 | .lst xs=>ob (g xs) λ l=>af (.lst l)
 | .inst C j=>nB (eK j n) (af (.inst C j))
 | .ns ks vs=>ob (g vs) λ l=>af (.ns ks l)
 | .iO ks vs=>ob (g vs) λ l=>af (.iO ks l)
 | .bG ks vs=>ob (g vs) λ l=>af (.bG ks l)
 |o=>af o
end
noncomputable def lZ(n:Nat)(m:ae AO):Nat->AV->aq AV
 |0,_=>none
 |k+1,v=>ZC n m (i5 (lZ n m k)) v
def yt(n:Nat)(m:ae AO)(k:Nat)(o:AO):aq AO:=resB n (i5 (lZ n m k)) o
noncomputable def Rv:Nat->ae AO->ae AO
 |n+1,o::r=>o::Rv n r
 |_,_=>[]
theorem NP:∀{n:Nat} {l:ae AO} {i:Nat} {o:AO},(Rv n l)[i]?=af o->l[i]?=af o
 |_+1,_::_,0,_=>id
 |n+1,_::l,i+1,_=>λ h=>NP (n:=n) (l:=l) h
 |0,_,_,_=>λ h=>cm h
 |_+1,[],_,_=>id
theorem HZ:∀{n:Nat} {l:ae AO},n<=l.length->(Rv n l).length=n
 |0,_=>λ aa=>rfl
 |_+1,[]=>λ h=>bt h (jg _)
 |n+1,_::l=>λ h=>ah rH (HZ (n:=n) (lh h))
noncomputable def fX(G:BM)(τ:ae au)(h:Heap):BM:=λ a=>(G a).or (if a∈τ then h.get? a else none)
section
variable{G:BM}{ρ τ:ae au}{m:ae AO}{h:Heap}{n k:Nat}{a:au}{o:Obj}
theorem fX.le:dG G (fX G τ h):=λ a o e=>ah (λ x=>Option.or x (if a∈τ then h.get? a else none)) e
theorem fX.of(e:fX G τ h a=af o):G a=af o\/(a∈τ/\h.get? a=af o):=(Bv.mp e).imp id λ w=>(d5 (a∈τ)).elim (λ c=>⟨c,(dq c).symm.trans w.2⟩) λ c=>cm ((bC c).symm.trans w.2)
theorem fX.new(g:G a=none)(c:a∈τ)(e:h.get? a=af o):fX G τ h a=af o:=Bv.mpr (.inr ⟨g,(dq c).trans e⟩)
theorem Gs{i:Nat}{x:au}(l:i < ρ.length)(e:(ρ++τ)[i]?=af x):ρ[i]?=af x:=(dD l).symm.trans e
theorem OU{i:Nat}{x:au}(l:ρ.length<=i)(e:(ρ++τ)[i]?=af x):x∈τ:=dB ((eR l).symm.trans e)
noncomputable abbrev Sys(ρ:ae au):Prop:=∀a∈ρ,a≠di
abbrev GOk(g:ae AV->aq (ae AV))(G:BM)(ρ τ:ae au)(h:Heap):Prop:=∀{l r:ae AV} {xs:ae ak},g l=af r->bJ G (ρ++τ) l xs->bJ (fX G τ h) ρ r xs
theorem lf{G:BM}{v t:AV}{x:ak}(h:VR G ρ v x)(e:af v=af t):VR G ρ t x:=am e▸h
theorem Y1{G:BM}{l:ae AV}{vs:bD ak}(w:G a=af o)(z:i3 o vs)(r:bJ G ρ l vs.toList):∀{q:aq (ae Int)},intsOf l=q->VR G ρ (Y3 l q) (.ref a)
 |some _=>λ e=>VR.Q2 w z (ot e r)
 |none=>λ aa=>VR.YX w z r
section
variable{g:ae AV->aq (ae AV)}(R:RM G (ρ++τ) m h)(sys:Sys (ρ++τ))(ih:GOk g G ρ τ h)
include R in
theorem Lp{i:Nat}{ao:AO}(l:ρ.length<=i)(ha:(ρ++τ)[i]?=af a)(e:bM m i=af ao){Q:Prop}(k:∀o,fX G τ h a=af o->OR G (ρ++τ) ao o->Q):Q:=
 (R.obj i a ao ha ((eO _ _).symm.trans e)).elim λ o w=>k o (fX.new (R.fr a (iq ha)) (OU l ha) w.1) w.2
include R ih in
theorem QW{C:au}{t:AV}{x:au}:∀{ao:AO},ZD g C ao=af t->fX G τ h x=af (gE C a)->fX G τ h a=af o->OR G (ρ++τ) ao o->VR (fX G τ h) ρ t (.ref x)
 | .ns ks vs=>λ e w w2 q=>ob.u e λ l hl e=>q.elim λ es q=>q.elim λ n q=>q.elim λ us q=>lf (v:= .inst C ks l) ⟨x,a,es,n,us,rfl,w,q.1▸w2,q.2.1,ih hl q.2.2⟩ e
 | .lst _=>λ e=>cm e
 | .il _=>λ e=>cm e
 | .inst _ _=>λ e=>cm e
 | .iO _ _=>λ e=>cm e
 | .bG _ _=>λ e=>cm e
 | .ba _=>λ e=>cm e
 | .tab=>λ e=>cm e
include R sys ih in
theorem QX{t:AV}(ha:a∈ρ++τ):∀{ao:AO},M6 ρ.length m g ao=af t->fX G τ h a=af o->OR G (ρ++τ) ao o->VR (fX G τ h) ρ t (.ref a)
 | .lst xs=>λ e w q=>ob.u e λ l hl e=>q.elim λ vs q=>lf (Y1 w q.1 (ih hl q.2) rfl) e
 | .il ns=>λ e w q=>q.elim λ vs q=>lf (VR.Q2 w q.1 q.2) e
 | .inst C j=>λ e w q=>nB.u e λ l e=>ob.u e λ ao hm e=>q.elim λ d q=>Lp R (aQ l) q.1 hm λ o' w2 q2=>QW R ih e (q.2▸w) w2 q2
 | .iO ks vs=>λ e w q=>ob.u e λ l hl e=>q.2.elim λ es z=>z.elim λ n z=>z.elim λ us z=>lf (v:= .iO ks l) ⟨a,o,es,n,us,rfl,w,q.1,z.1,z.2.1,ih hl z.2.2.1,z.2.2.2,sys a ha⟩ e
 | .bG ks vs=>λ e w q=>ob.u e λ l hl e=>q.2.elim λ es z=>z.elim λ n z=>z.elim λ us z=>lf (v:= .bG ks l) ⟨a,o,es,n,us,rfl,w,q.1,z.1,z.2.1.up fX.le,ih hl z.2.2.1,z.2.2.2,sys a ha⟩ e
 | .ns _ _=>λ e=>cm e
 | .ba _=>λ e=>cm e
 | .tab=>λ e=>cm e
include R sys ih in
theorem QV{i:Nat}{t:AV}{x:ak}(e:aY (bB ρ.length i) (ob (bM m i) (M6 ρ.length m g)) (af (.own i))=af t)(hx:∃a,(ρ++τ)[i]?=af a/\x= .ref a):VR (fX G τ h) ρ t x:=
 hx.elim λ a w=>w.2▸by
  cases l:bB ρ.length i with
  |true=>exact ob.u ((ah (λ b=>aY b (ob (bM m i) (M6 ρ.length m g)) (af (.own i))) l).symm.trans e) λ ao hm e=>Lp R (aQ l) w.1 hm λ o w2 q=>QX R sys ih (iq w.1) e w2 q
  |false=>exact lf (VR.Jf (Gs (Nat.lt_of_not_le λ q=>ay ((c6 q).symm.trans l)) w.1)) ((ah (λ b=>aY b (ob (bM m i) (M6 ρ.length m g)) (af (.own i))) l).symm.trans e)
include R sys ih in
theorem QT{t:AV}{x:ak}:∀v:AV,ZC ρ.length m g v=af t->VR G (ρ++τ) v x->VR (fX G τ h) ρ t x
 | .own i=>λ e hx=>QV R sys ih e hx
 | .tup xs=>λ e hx=>ob.u e λ l hl e=>lf (v:= .tup l) (NY fX.le (λ o vs=> .imp_right (ih hl)) hx) e
 | .lst xs=>λ e hx=>ob.u e λ l hl e=>lf (v:= .lst l) (NY fX.le (λ o vs=> .imp_right (ih hl)) hx) e
 | .inst C ks vs=>λ e hx=>ob.u e λ l hl e=>lf (v:= .inst C ks l) (A4 fX.le (λ vs=>ih hl) hx) e
 | .iO ks vs=>λ e hx=>ob.u e λ l hl e=>lf (v:= .iO ks l) (Tl fX.le (λ a o es n vs=> .imp_right<| .imp_right<| .imp_right<| .imp_left (ih hl)) hx) e
 | .bG ks vs=>λ e hx=>ob.u e λ l hl e=>lf (v:= .bG ks l) (Tl fX.le (λ a o es n vs=> .imp_right<| .imp_right<| .imp (pE.up fX.le)<| .imp_left (ih hl)) hx) e
 | .undef=>λ e hx=>hx.elim
 | .none=>λ e hx=>lf (v:= .none) hx e
 | .bool b=>λ e hx=>lf (v:= .bool b) hx e
 | .int i=>λ e hx=>lf (v:= .int i) hx e
 | .j9 b=>λ e hx=>lf (v:= .j9 b) hx e
 | .val v=>λ e hx=>lf (v:= .val v) hx e
 | .any=>λ e hx=>lf (v:= .any) hx e
 | .fn f=>λ e hx=>lf (v:= .fn f) (aah fX.le hx) e
 | .lq r=>λ e hx=>lf (v:= .lq r) (VR.up fX.le (Ext.refl ρ) (.lq r) hx) e
 | .m9 r=>λ e hx=>lf (v:= .m9 r) (VR.up fX.le (Ext.refl ρ) (.m9 r) hx) e
 | .row r=>λ e hx=>lf (v:= .row r) (VR.up fX.le (Ext.refl ρ) (.row r) hx) e
 | .j_ x y z=>λ e hx=>lf (v:= .j_ x y z) (Tn fX.le hx) e
include ih in
theorem QU{wf:AO}:∀ao:AO,resB ρ.length g ao=af wf->OR G (ρ++τ) ao o->OR (fX G τ h) ρ wf o
 | .lst xs=>λ e q=>ob.u e λ l hl e=>am e▸(cR (λ aa=> .imp_right (ih hl)) q:OR _ ρ (.lst l) o)
 | .inst C j=>λ e q=>nB.u e λ l e=>am e▸(cR (λ aa=> .imp_left (Gs (aQ l))) q:OR _ ρ (.inst C j) o)
 | .ns ks vs=>λ e q=>ob.u e λ l hl e=>am e▸(cR (λ aa=> .imp λ aa=> .imp λ aa=> .imp_right<| .imp_right (ih hl)) q:OR _ ρ (.ns ks l) o)
 | .iO ks vs=>λ e q=>ob.u e λ l hl e=>am e▸(iQ (.imp λ aa=> .imp λ aa=> .imp λ aa=> .imp_right<| .imp_right<| .imp_left (ih hl)) q:OR _ ρ (.iO ks l) o)
 | .bG ks vs=>λ e q=>ob.u e λ l hl e=>am e▸(iQ (.imp λ aa=> .imp λ aa=> .imp λ aa=> .imp_right<| .imp (pE.up fX.le)<| .imp_left (ih hl)) q:OR _ ρ (.bG ks l) o)
 | .il ns=>λ e q=>am e▸(q:OR _ ρ (.il ns) o)
 | .ba b=>λ e q=>am e▸(q:OR _ ρ (.ba b) o)
 | .tab=>λ e q=>am e▸(Iv.up fX.le q:OR _ ρ .tab o)
end
theorem Fi{f:AV->aq AV}(ih:∀v {t x},f v=af t->VR G (ρ++τ) v x->VR (fX G τ h) ρ t x):∀{l r:ae AV} {xs:ae ak},i5 f l=af r->bJ G (ρ++τ) l xs->bJ (fX G τ h) ρ r xs
 |[],r,xs=>λ e hx=>am e▸hx
 |v::l,r,xs=>λ e hx=>ob.u e λ w e1 e=>ob.u e λ q e2 e=>am e▸hx.uc (Q:=λ xs=>bJ (fX G τ h) ρ (w::q) xs) λ u us h1 h2=> .cons (ih v e1 h1) (Fi ih e2 h2)
theorem s6(R:RM G (ρ++τ) m h)(sys:Sys (ρ++τ)):∀(k:Nat) (v:AV) {t:AV} {x:ak},lZ ρ.length m k v=af t->VR G (ρ++τ) v x->VR (fX G τ h) ρ t x
 |0=>λ aa aa aa e=>cm e
 |k+1=>λ v aa aa=>QT R sys (Fi (s6 R sys k)) v
theorem zO(R:(ρ++τ).Nodup)(h:a∈ρ):a∉τ:=λ k=>(gU.mp R).2.2 a h a k rfl
theorem RM.fz{m':ae AO}(R:RM G (ρ++τ) m h)(sys:Sys (ρ++τ))(e:i5 (yt ρ.length m 12) (Rv ρ.length m)=af m'):RM (fX G τ h) ρ m' h:=
 ⟨λ a o e=>(fX.of e).elim (R.kg a o) gh,((C3 e).trans (HZ (R.len▸bj.symm▸bq _ _))).symm,
  λ j a ao hj hm=>(vF e j ao hm).elim λ Sb w=>(R.obj j a Sb ((dD (ju hj)).trans hj) (NP w.1)).imp λ o=> .imp_right (QU (Fi (s6 R sys 12)) Sb w.2),
  (gU.mp R.nd).1,λ a ha=>none_of λ o e=>(fX.of e).elim (dh (R.fr a (dA _ ha))) λ w=>zO R.nd ha w.1⟩
end
def Oe(n:Nat)(v:AV)(m:ae AO):aq (AV×ae AO):=ob (lZ n m 12 v) λ t=>ob (i5 (yt n m 12) (Rv n m)) λ m'=>af (t,m')
theorem WC.fz{P:cC}{f:au}{dx:ae AV}{mem:ae AO}{K:AV->ae AO->Prop}(h:WC P f dx mem (λ v m=>∃r,Oe mem.length v m=af r/\K r.1 r.2)):WC P f dx mem K:=
 ⟨λ A G ρ s vs room ja R hv=>X.eu (h.run A G ρ s vs room ja R hv) (oy λ v s' z=>by
  rcases z with⟨G',c8,av,m,⟨g,⟨τ,rfl⟩,dS,va,r,e,hk⟩,kp,nw,gf,gz⟩
  rw[← R.len] at e
  have sys:Sys (ρ++τ):=λ a ha q=>(P.Jx _ (P.mono _ _ g ja)).elim λ o ho=>dh (dS.fr a ha) (q▸ho)
  exact ob.u e λ t ht e=>ob.u e λ m' hm e=>⟨fX G' τ s'.heap,ρ,t,m',⟨g.trans fX.le,Ext.refl _,dS.fz sys hm,s6 dS sys 12 av ht va,(am e▸hk:K (t,m').1 (t,m').2)⟩,kp,λ a ha=> .inl ha,λ a o e=>(fX.of e).elim (gf a o) λ w=>(nw a (cD _ w.1)).imp (λ c=>bt w.1 (zO dS.nd c)) id,gz⟩)⟩
section
variable{prog:aK}{w:bw}{A:bn}{s:ar}{a:au}{bs:ae b7}
theorem Eu{v:Int}{t u:kx}{Q:e6->ar->Prop}(h:s.heap.get? a=af (nO bs))(hk:0 < bs.length)(v0:0<=v)(v1:v < 256)(hz:bs.length<=gA)
  (q:∀h',h'.get? a=af (nO (bs.set (bs.length - 1) (eG v.toNat)))->(∀b o,b≠a->s.heap.get? b=af o->h'.get? b=af o)->Q () {s with heap:=h'}):
  aH (aE prog w) A (eV (.ref a) (.int (-1) t) (.int v u)) Q dw s:=by
 unfold eV
 try with_reducible refine bU ?_
 first|refine aj (aw ?_)|skip
 refine aj (lQ (dd h) (by decide) ?_)
 refine aj (de (name:=bT "__setitem__") (dd h) jE
  (cA jE (dd h) oj ?_ (po _ _ _)))
 unfold bV.«bytearray.__setitem__»
 show aH _ _ (Builtin.Bytes.subscript? (.int (-1) t)>>=_) _ _ s
 have sub:∀{Q:aq Int->ar->Prop},Q (af (-1)) s->aH (aE prog w) A.in1 (Builtin.Bytes.subscript? (.int (-1) t)) Q dw s:=λ q=>by
  unfold Builtin.Bytes.subscript?
  refine aj (cX (T:="int") (mD s (-1) t) JK ?_)
  rw[bC (by simp)]
  refine aj (bu (a:=-1) rfl ?_)
  exact aw q
 refine aj (sub ?_)
 dsimp only
 refine aj (nP v0 v1 ?_)
 refine aj (jT h ?_)
 have e:j7 (-1) bs.length=af (bs.length - 1):=by
  have h1:(-1:Int) < 0:=by decide
  unfold j7
  simp only[dq h1]
  rw[dq (by rw[jl,cY,cY]; omega)]
  congr 1; omega
 rw[cT,e]
 dsimp only
 refine aj (qo h (cs:=bs.set (bs.length - 1) (eG v.toNat)) (by simp) (by rw[iM]; exact hz) λ h' e1 e2=>?_)
 exact aj (aw (aw ⟨_,rfl,aw (q h' e1 e2)⟩))
end
section
variable{P:cC}{ct:Ct}
inductive tJ(n:Int)(len:Nat)(K:Nat->Prop):Prop
 |pos (b0:0<=n) (b1:n < len) (b2:n < 4611686018427387904) (k:K n.toNat):tJ n len K
 |last (b0:n= -1) (b1:0 < len) (k:K (len - 1)):tJ n len K
def UC(a i:AV)(mem:ae AO)(K:AV->Prop):Prop:=match a with
 | .own p=>pJ mem p λ o=>match o with
  | .ba bs=>kj i λ n=>tJ n bs.length λ k=>K (.int (bs.getD k 0).toNat)
  |_=>False
 |_=>False
def V3(a i v:AV)(σ:St)(K:St->Prop):Prop:=match a with
 | .own p=>pJ σ.mem p λ o=>match o with
  | .ba bs=>kj i λ n=>kj v λ m=>need (0<=m/\m < 256/\bs.length < 1000000) (tJ n bs.length λ k=>K (σ.put p (.ba (bs.set k (eG m.toNat)))))
  |_=>False
 |_=>False
theorem wK{F:Fd}{G:BM}{ρ:ae au}{σ:St}{s:ar}{Kv:AV->St->Prop}{a i:AV}{u v:ak}(O:gO P ct F)(R:RF F ct.aS G ρ σ s)(va:VR G ρ a u)(vi:VR G ρ i v)(h:UC a i σ.mem λ x=>Kv x σ):
  lH P.prog P.w F.A u v (PE F ct.aS G ρ Kv) s:=by
 cases a<;>first|exact h.elim|skip
 obtain⟨o,ho,h⟩:=Hv h
 obtain⟨adr,jN,rfl⟩:=va.MK
 obtain⟨ob,h1,q⟩:=R.rm.obj _ _ _ jN ho
 cases o<;>first|exact h.elim|skip
 rename_i bs
 obtain⟨n,t,e1,e2,hk⟩:=AD vi h
 subst e1 e2
 have q':ob=nO _:=q
 subst q'
 rcases hk with⟨b0,b1,b2,k⟩|⟨b0,b1,k⟩
 ·exact⟨"bytearray",_,dd h1,eX.lookup,KE h1 b0 (by omega) b1 (PE.toks R VR.mH k)⟩
 ·subst b0
  refine⟨"bytearray",_,dd h1,eX.lookup,Gx h1 (fW.mp b1) (PE.toks R VR.mH ?_)⟩
  have:bs.getLastD 0=bs.getD (bs.length - 1) 0:=by
   rw[nX,nW,gB]
  rw[this]; exact k
theorem FG{F:Fd}{G:BM}{ρ:ae au}{σ:St}{s:ar}{a i v:AV}{u k' x:ak}{K:St->Prop}{Q:e6->ar->Prop}(O:gO P ct F)(R:RF F ct.aS G ρ σ s)(va:VR G ρ a u)(vi:VR G ρ i k')(vv:VR G ρ v x)(h:V3 a i v σ K)
  (hq:∀b8 s',RF F ct.aS G ρ b8 s'->K b8->Q () s'):aH (aE P.prog P.w) F.A (eV u k' x) Q dw s:=by
 cases a<;>first|exact h.elim|skip
 obtain⟨o,ho,h⟩:=Hv h
 obtain⟨adr,jN,rfl⟩:=va.MK
 obtain⟨ob,h1,q⟩:=R.rm.obj _ _ _ jN ho
 cases o<;>first|exact h.elim|skip
 obtain⟨n,t,rfl,rfl,h⟩:=AD vi h
 obtain⟨m,t',rfl,rfl,h⟩:=AD vv h
 obtain⟨⟨c0,c1,c2⟩,h⟩:=Qw h
 have q':ob=nO _:=q
 subst q'
 rcases h with⟨b0,b1,b2,k⟩|⟨b0,b1,k⟩
 ·refine KI h1 b0 (by omega) b1 c0 c1 (by rw[dZ]; omega) λ h' e1 e2=>?_
  have R':=R.turn (wf:= .ba _) (s':={s with heap:=h'}) jN e1 rfl e2 ⟨rfl,rfl,rfl⟩
  exact hq _ _ (by rw[← ou] at R'; exact R') k
 ·subst b0
  refine Eu h1 b1 c0 c1 (by rw[dZ]; omega) λ h' e1 e2=>?_
  have R':=R.turn (wf:= .ba _) (s':={s with heap:=h'}) jN e1 rfl e2 ⟨rfl,rfl,rfl⟩
  exact hq _ _ (by rw[← ou] at R'; exact R') k
noncomputable def aaw(o i:SE P ct)(p:c9):SE P ct where
 bA:= .Subscript o.bA i.bA p
 run:=λ σ K=>o.run σ λ a aI=>i.run aI λ b aW=>UC a b aW.mem λ v=>K v aW
 ch:=vG 1 i.bA&&(o.ch&&i.ch)
 star:=λ aa aa=>rfl
 ok:=λ c F G ρ σ s Kv O R h=>have d:=(HN (aF c).1).1; have c:=(aF c).2; X.Subscript (SE.then o i (aF c).1 (aF c).2 O R h λ G' ρ' a b u v b8 s' g x R' va vb k=>by
  obtain⟨T,id,h1,h2,h3⟩:=wK O R' va vb k
  exact CV g x (tail_any h1 h2 h3 (d _ _)))
noncomputable def S9(o i:SE P ct)(p':c9)(op:cH)(e:SE P ct)(p:c9):SX P ct where
 bA:= .AugAssign (.Subscript o.bA i.bA p') op e.bA p
 run:=λ σ K=>o.run σ λ ov aI=>i.run aI λ iv aW=>UC ov iv aW.mem λ a=>e.run aW λ b dC=>zV op a b dC λ r qp=>V3 ov iv r qp λ Ob=>K .d8 Ob
 ch:=vG 1 i.bA&&(e.ch&&(o.ch&&i.ch))
 ok:=λ c F G ρ σ s Kv O R h=>have d:=(HN (aF c).1).2; have c:=(aF c).2; X.qU d (SE.then o i (aF (aF c).2).1 (aF (aF c).2).2 O R h λ dW c8 ov iv u w aI s₁ fQ fu dS vo vi k=>by
  obtain⟨_,_,_,_,hg⟩:=wK O dS vo vi (Kv:=λ a σ=>e.run σ λ b dC=>zV op a b dC λ r qp=>V3 ov iv r qp λ Ob=>Kv .d8 Ob) k
  refine X.mono (X.any hg) λ v bp z=>?_
  obtain⟨jr,g8,old,aW,jk,jw,gP,adN,cW⟩:=z
  refine X.mono (e.ok (aF c).1 F jr g8 aW bp _ O gP cW) (λ u fY z=>?_)
  obtain⟨rT,lg,b,dC,kM,kS,lI,vb,fK⟩:=z
  refine X.mono (X.any (r7 lI (adN.up kM kS) vb fK)) (λ r te z=>?_)
  obtain⟨Tz,Oa,r',qp,CA,DV,pW,vr,nQ⟩:=z
  have gg:=jk.trans (kM.trans CA)
  have xx:=jw.trans (kS.trans DV)
  exact X.any (FG O pW (vo.up gg xx) (vi.up gg xx) vr nQ λ JA s'' Bi k=>PF.d8 (fQ.trans gg) (fu.trans xx) Bi k))
end
noncomputable def q(a b c d:Nat):c9:=⟨a,b,c,d⟩
noncomputable def fnB(o:Obj):aC:=match o.data with
 | .func aa=>true
 |_=>false
theorem Ll{o:Obj}(h:fnB o=true):o.data= .func (fdO o):=by
 obtain⟨c,d,dt,sl⟩:=o
 cases dt
 case func=>rfl
 all_goals exact ay h
noncomputable def y4:ae Int->ae ak->aC
 |[],[]=>true
 |i::r,v::t=>iVB i v&&y4 r t
 |_,_=>false
noncomputable def DL(K:eJ)(v:ak)(p:ae ak->aC):aC:=xb v λ a=>pa (K.lookup a) λ o=>tyB o.cls "tuple"&&No o p
noncomputable def AK(K:eJ):ae (ae Int)->ae ak->aC
 |[],[]=>true
 |x::r,v::t=>DL K v (y4 x)&&AK K r t
 |_,_=>false
noncomputable def y7(K:eJ)(a:au):aC:=pa (K.lookup a) fnB
noncomputable def RH(K:eJ)(v:AV)(u:ak):aC:=match v with
 | .fn a=>xb u λ b=>aT a b&&y7 K a
 | .val c=>xb c λ a=>xb u λ b=>aT a b
 | .int i=>iVB i u
 | .lq xs=>DL K u (y4 xs)
 | .m9 xG=>DL K u (AK K xG)
 |_=>false
theorem vA:∀{ns:ae Int} {vs:ae ak},y4 ns vs=true->cx ns vs
 |[],[]=>λ aa=>rfl
 |[],_::_=>λ h=>ay h
 |_::_,[]=>λ h=>ay h
 |i::r,v::t=>λ h=>(LS (aF h).1).imp λ aa e=>⟨t,ah (·::t) e,vA (aF h).2⟩
section
variable{K:eJ}{G:BM}
theorem xA{v:ak}{p:ae ak->aC}(hK:∀a o,K.lookup a=af o->G a=af o)(h:DL K v p=true):∃a o vs,v= .ref a/\G a=af o/\pG o vs/\p vs.toList=true:=
 (lE h).elim λ a h=>ge h.2 λ o e k=>(AM (aF k).2).elim λ vs q=>⟨a,o,vs,h.1,hK _ _ e,⟨FV (aF k).1,q.imp λ aa=>eH⟩,q.elim λ aa=>gh⟩
abbrev Xb(G:BM)(xG:ae (ae Int))(vs:ae ak):Prop:=∀(i:Nat) (xs:ae Int),xG[i]?=af xs->∃(b:au) (o:Obj) (us:bD ak),vs[i]?=af (du b)/\G b=af o/\pG o us/\cx xs us.toList
theorem Du(hK:∀a o,K.lookup a=af o->G a=af o):∀{xG:ae (ae Int)} {vs:ae ak},AK K xG vs=true->vs.length=xG.length/\Xb G xG vs
 |[],[]=>λ aa=>⟨rfl,λ i xs e=>cm e⟩
 |[],_::_=>λ h=>ay h
 |_::_,[]=>λ h=>ay h
 |x::r,v::t=>λ h=>have z:=Du hK (aF h).2; ⟨ah (·+1) z.1,λ i xs=>match i with
  |0=>λ e=>(xA hK (aF h).1).imp λ a=> .imp λ o=> .imp λ us q=>⟨ah af q.1,q.2.1,q.2.2.1,am e▸vA q.2.2.2⟩
  |i+1=>z.2 i xs⟩
theorem RI{ρ:ae au}{v:AV}{u:ak}(hK:∀a o,K.lookup a=af o->G a=af o)(h:RH K v u=true):VR G ρ v u:=by
 rcases v with _|_|_|i|_|_|c|a|xs|xG|_|_|_|_|_|_|_|_
 case int=>exact LS h
 case val=>
  obtain⟨a,rfl,h⟩:=lE h
  obtain⟨b,rfl,h⟩:=lE h
  exact aL h▸vR rfl rfl
 case fn=>
  obtain⟨b,rfl,h⟩:=lE h
  exact ge (aF h).2 λ o e k=>vR (ah du (aL (aF h).1).symm) ⟨o,_,hK _ _ e,Ll k⟩
 case lq=>exact(xA hK h).imp λ aa=> .imp λ aa=> .imp λ aa=> .imp_right<| .imp_right<| .imp_right vA
 case m9=>
  exact(xA hK h).imp λ aa=> .imp λ aa=> .imp λ vs=> .imp_right<| .imp_right<| .imp_right λ p=>have z:=Du hK p; ⟨(bh).symm.trans z.1,λ i xs e=>(z.2 i xs e).imp λ aa=> .imp λ aa=> .imp λ aa=> .imp_left (bP).symm.trans⟩
 all_goals exact ay h
end
noncomputable def Yh(K:eJ)(gl:ae (bI×AV)):aC:=gl.all λ x=>pa (nsIn K dk x.1) λ r=>pa r λ u=>RH K x.2 u
noncomputable def yJ(K:eJ)(l:ae bI):aC:=l.all λ x=>pa (nsIn K dk x) Option.isNone&&!(x==bT "__name__")
def TM(K:eJ)(l:ae (au×ae Nat)):aC:=l.all λ x=>x.2.all λ i=>eK i NM&&tE K x.1 (nm i)
noncomputable def Xp(l:ae (au×ae Nat))(C:au)(i:Nat):aC:=l.any λ x=>aT x.1 C&&x.2.any λ j=>aT j i
def US(K:eJ)(l:ae (au×au)):aC:=l.all λ x=>x5 K x.1 x.2
noncomputable def Yy(l:ae (au×au))(C:au):aq au:=(l.find? λ x=>aT x.1 C).map (·.2)
def Vj(K:eJ)(l:ae (au×Nat×au)):aC:=l.all λ x=>eK x.2.1 NM&&nM K x.1 (nm x.2.1) x.2.2
noncomputable def YZ(l:ae (au×Nat×au))(C:au)(i:Nat):aq au:=(l.find? λ x=>aT x.1 C&&aT x.2.1 i).map (·.2.2)
theorem OW{K:eJ}{l:ae (au×ae Nat)}{C:au}{i:Nat}(k:TM K l=true)(h:Xp l C i=true):i < NM/\tE K C (nm i)=true:=
 (List.any_eq_true.mp h).elim λ x h=>(List.any_eq_true.mp (aF h.2).2).elim λ j q=>have z:=aF (aZ.mp (aZ.mp k x h.1) j q.1)
  aL q.2▸aL (aF h.2).1▸⟨lU z.1,z.2⟩
theorem G4{α β:Type}{l:ae α}{p:α->aC}{f:α->β}{y:β}{Q:Prop}(h:(l.find? p).map f=af y)(k:∀x∈l,p x=true->f x=y->Q):Q:=
 (eM.mp h).elim λ x h=>k x (List.mem_of_find?_eq_some h.1) (List.find?_some h.1) h.2
theorem P7{K:eJ}{l:ae (au×au)}{C fi:au}(k:US K l=true)(h:Yy l C=af fi):x5 K C fi=true:=
 G4 h λ x m p e=>aL p▸e▸aZ.mp k x m
theorem Qr{K:eJ}{l:ae (au×Nat×au)}{C:au}{i:Nat}{g:au}(k:Vj K l=true)(h:YZ l C i=af g):i < NM/\nM K C (nm i) g=true:=
 G4 h λ x m p e=>have z:=aF (aZ.mp k x m); aL (aF p).1▸aL (aF p).2▸e▸⟨lU z.1,z.2⟩
structure Kg where
 gl:ae (bI×AV)
 blt:ae bI
 at_:ae (au×ae Nat)
 init:ae (au×au)
 tV:ae (au×Nat×au)
def tabsOk(K:eJ)(T:Kg):aC:=Yh K T.gl&&(yJ K T.blt&&(TM K T.at_&&(US K T.init&&Vj K T.tV)))
inductive J1(K:eJ)(G:BM):Prop
 |mk (B:Heap) (p:aK) (l:ae bI) (mg mb:_) (a:K.In B) (b:n8 p l mg mb B) (c:∃o,B.get? di=af o) (e:∀a o,B.get? a=af o->G a=af o)
def Y2(prog:aK)(w:bw)(K:eJ)(T:Kg)(h:tabsOk K T=true)(X:BM->Prop)(hX:∀G G',dG G G'->X G->X G')(d:Nat)(j:aC)(cB:au->ae TV->ae TO->aq (ae (TV×ae TO))):cC:=
 have h1:=aF h
 have h2:=aF h1.2
 have h3:=aF h2.2
 have h4:=aF h3.2
 {cB:=cB,prog:=prog,w:=w,K:=K,gl:=T.gl,at_:=Xp T.at_,Φ:=λ G=>J1 K G/\X G,d:=d,j:=j
  mono:=λ G G' g z=>⟨z.1.casesOn λ B p l mg mb a b c e=>⟨B,p,l,mg,mb,a,b,c,λ i o q=>g _ _ (e i o q)⟩,hX _ _ g z.2⟩
  base:=λ G z=>z.1.casesOn λ B p l mg mb a b c e=>⟨B,p,l,mg,mb,a,b,e⟩
  glob:=λ G x v ρ z hv=>z.1.casesOn λ B p l mg mb a b c e=>ge (aZ.mp h1.1 _ (mem_of_lookup hv)) λ r hr q=>ge q λ u hu q=>⟨u,hr.trans (ah af hu),RI (λ a' o q=>e _ _ (a _ _ q)) q⟩
  attr:=λ C x hx=>OW h3.1 hx
  Jx:=λ G z=>z.1.casesOn λ B p l mg mb a b c e=>c.imp λ o c=>e _ _ c
  blt:=T.blt
  yJ:=λ x hx=>have t:=aF (aZ.mp h2.1 x (D9.mp hx)); ⟨ge t.1 λ r hr q=>hr.trans (ah af (jh.mp q)),λ e=>ay ((nb t.2).symm.trans (a_.mpr e))⟩
  init:=Yy T.init
  E4:=λ C fi hx=>P7 h4.1 hx
  tV:=YZ T.tV
  Fk:=λ C x g hx=>Qr h4.2 hx}
def cqB(K:eJ)(ct:Ct)(fd:dR):aC:=aY ct.cq (xb fd.code (aT · wq)&&(fd.qualname=="scan_conditioning"&&kJ K)) true
theorem T8{K:eJ}{ct:Ct}{fd:dR}(h:cqB K ct fd=true)(e:ct.cq=true):fd.code= .ref wq/\fd.qualname="scan_conditioning"/\kJ K=true:=
 have h:=aF ((ah (aY · _ true) e).symm.trans h)
 ⟨(lE h.1).elim λ a q=>q.1.trans (ah du (aL q.2)),a_.mp (aF h.2).1,(aF h.2).2⟩
def fdB(K:eJ)(ct:Ct)(xs:ae bI)(fd:dR)(gb:aC:=false):aC:=(fd.scope.names==ct.names)&&((fd.scope.kind== .function)&&((fd.scope.isGenerator==gb)&&(!fd.scope.isCoroutine&&(fd.closure.isEmpty&&(aT fd.globals dk&&(aT fd.builtins li&&
 (codeIn K fd.code fd.qualname&&(wY ct.aS&&(xs.isPrefixOf ct.aS&&(xs.all (λ x=>ct.names.lookup x==af .local||ct.names.lookup x==af .cell)&&cqB K ct fd))))))))))
def X7(K:eJ)(ct:Ct)(xs:ae bI)(f:au):aC:=y7 K f&&fdB K ct xs (fdOf K f)
theorem CP{K:eJ}{f:au}(h:y7 K f=true):∃oc od Zo,K.lookup f=af (⟨oc,od, .func (fdOf K f),Zo⟩:Obj):=
 ge h λ o e k=>⟨o.cls,o.dict,o.slots,e.trans (ah (λ d=>af (⟨o.cls,o.dict,d,o.slots⟩:Obj)) ((Ll k).trans (ah Data.func (show fdO o=fdOf K f by unfold fdOf; rw[e]))))⟩
theorem GY{P:cC}{ct:Ct}{xs:ae bI}{dv:ae ak}{body:ae f5}{fd:dR}{gb:aC}(h:fdB P.K ct xs fd gb=true)(hb:fd.body= .stmts body)
  (bind:∀(s:ar) (vals:ae ak),P.K.In s.heap->vals.length+dv.length=xs.length->mV s fd ⟨vals,[]⟩ (xs.zip (vals++dv))):J3 P ct xs dv body fd gb:=
 have h1:=aF h
 have h2:=aF h1.2
 have h3:=aF h2.2
 have h4:=aF h3.2
 have h5:=aF h4.2
 have h6:=aF h5.2
 have h7:=aF h6.2
 have h8:=aF h7.2
 have h9:=aF h8.2
 have h10:=aF h9.2
 have h11:=aF h10.2
 {body:=hb,scope:=a_.mp h1.1,kind:=a_.mp h2.1,gen:=a_.mp h3.1,co:=nb h4.1,T4:=vg.mp h5.1,glob:=aL h6.1,blt:=aL h7.1,code:=h8.1,cq:=T8 h11.2,bind:=bind,names:=qD h9.1
  pre:=(List.isPrefixOf_iff_prefix.mp h10.1).imp λ aa=>Eq.symm,kinds:=λ x hx=>(g_.mp (aZ.mp h11.1 x hx)).imp a_.mp a_.mp}
theorem Ae{P:cC}{ct:Ct}{f:au}{xs:ae bI}{dv:ae ak}{body:ae f5}(h:X7 P.K ct xs f=true)(hb:(fdOf P.K f).body= .stmts body)
  (bind:∀(s:ar) (vals:ae ak),P.K.In s.heap->vals.length+dv.length=xs.length->mV s (fdOf P.K f) ⟨vals,[]⟩ (xs.zip (vals++dv))):FnAt P ct f xs dv body:=⟨CP (aF h).1,GY (aF h).2 hb bind⟩
def Xr(a b:AV):aq {u:e6 // a=b}:=match a,b with
 | .fn x, .fn y=>dE (jp x y) λ h=>af ⟨(),ah AV.fn h⟩
 | .val (.ref x), .val (.ref y)=>dE (jp x y) λ h=>af ⟨(),ah (λ z=>AV.val (.ref z)) h⟩
 | .int x, .int y=>dE (nY x y) λ h=>af ⟨(),ah AV.int h⟩
 | .lq x, .lq y=>dE (nY x y) λ h=>af ⟨(),ah AV.lq h⟩
 | .m9 x, .m9 y=>dE (nY x y) λ h=>af ⟨(),ah AV.m9 h⟩
 | .none, .none=>af ⟨(),rfl⟩
 | .undef, .undef=>af ⟨(),rfl⟩
 | .own x, .own y=>dE (jp x y) λ h=>af ⟨(),ah AV.own h⟩
 | .bool x, .bool y=>dE (nY x y) λ h=>af ⟨(),ah AV.bool h⟩
 | .row x, .row y=>dE (nY x y) λ h=>af ⟨(),ah AV.row h⟩
 |_,_=>none
noncomputable def LA:(l:ae (bI×AV))->(y:bI)->(v:AV)->aq {u:e6 // l.lookup y=af v}
 |[],_,_=>none
 |x::r,y,v=>match e:y==x.1 with
  |true=>ob (Xr x.2 v) λ h=>af ⟨(),by rw[f7,e,h.2]⟩
  |false=>ob (LA r y v) λ h=>af ⟨(),by rw[f7,e]; exact h.2⟩
section
variable{P:cC}{ct:Ct}
def Ww(x:bI)(v:AV)(p:c9):SE P ct where
 bA:= .Name x p
 run:=λ σ K=>K v σ
 ch:=Cw ct x&&(LA P.gl x v).isSome
 star:=λ aa aa=>rfl
 ok:=λ c F G ρ σ s Kv O R h=>by
  obtain⟨c1,c2⟩:=aF c
  cases e:LA P.gl x v with
  |none=>rw[e] at c2; cases c2
  |some u=>exact(xGv (P:=P) (ct:=ct) x v p).ok c1 F G ρ σ s Kv O R ⟨u.2,h⟩
 ab:=λ s=>af [(.ex v,s)]
 cO:=λ aa s outs h σ gs=>by cases h; exact D2.ret rfl gs
end
noncomputable def gp(x:bI)(v:AV):bI×AV:=(x,v)
noncomputable def WE:ae (ae Int):=[[23069,1,1,1],[9606,14,2,0],[4372,16,3,0],[2059,18,4,0],[984,20,5,0],[474,23,6,0],[229,25,7,0],[111,28,8,0],[54,30,9,0],[26,33,10,0],[13,35,11,0],[6,9,12,0],[3,10,13,0],[1,12,13,0],[23167,15,15,1],[16165,36,16,0],[11506,38,17,0],[8316,39,18,0],[6073,40,19,0],[4482,42,20,0],[3311,43,21,0],[2465,45,22,0],[1839,46,23,0],[1372,48,24,0],[1030,49,25,0],[771,51,26,0],[576,52,27,0],[433,54,28,0],[324,56,29,0],[245,57,30,0],[183,59,31,0],[138,60,32,0],[104,62,33,0],[78,63,34,0],[59,32,35,0],[44,33,9,0],[23265,37,37,1],[18508,64,38,0],[14861,65,39,0],[12017,67,40,0],[9759,68,41,0],[7987,69,42,0],[6568,70,43,0],[5400,72,44,0],[4471,73,45,0],[3700,74,46,0],[3067,75,47,0],[2552,77,48,0],[2145,78,49,0],[1798,79,50,0],[1485,48,51,0],[1246,50,52,0],[1039,50,53,0],[867,51,54,0],[724,52,55,0],[604,53,56,0],[504,54,57,0],[420,55,58,0],[352,56,59,0],[293,57,60,0],[246,58,61,0],[203,59,62,0],[171,61,63,0],[143,61,32,0],[23314,65,65,1],[19716,80,66,0],[16684,81,67,0],[14296,82,68,0],[12264,83,69,0],[10556,84,70,0],[9081,86,71,0],[7903,87,72,0],[6825,87,73,0],[5966,72,74,0],[5156,72,75,0],[4508,74,76,0],[3947,74,77,0],[3409,75,78,0],[2998,77,79,0],[2624,77,48,0],[22578,80,81,1],[19740,88,82,0],[17294,89,83,0],[15325,90,84,0],[13550,91,85,0],[11950,92,86,0],[10650,93,87,0],[9494,86,71,0],[21872,88,89,1],[19625,95,90,0],[17625,96,91,0],[15906,97,92,0],[14372,99,93,0],[12980,99,94,0],[11799,93,86,0],[22184,95,96,1],[20294,101,97,0],[18405,102,98,0],[16847,103,99,0],[15421,104,100,0],[14174,99,93,0],[21041,105,102,0],[19471,106,103,0],[17977,107,104,0],[16734,103,99,0],[22055,105,106,1],[20711,108,107,0],[19333,109,103,0],[21911,110,109,0],[20559,111,107,0],[23056,110,111,1],[21794,112,109,0],[23019,112,111,1],[23069,113,113,0]]
def TT:Kg:={
 gl:=[gp "USUAL_DC" (.int 16),gp "USUAL_AC" (.int 5),gp "written" (.fn 42),gp "scan_keys" (.fn 61),gp "best_value" (.fn 56),gp "dc_values" (.fn 28),gp "ac_values" (.fn 35),gp "STATES" (.m9 WE),gp "Bins" (.val (.ref 245)),gp "DC_BINS" (.int 49),gp "next_context" (.fn 298),gp "put_bits" (.fn 284),gp "TO_BITS" (.int 14),gp "put_size" (.fn 270),gp "FIRST_SIZE" (.int 20),gp "MOST" (.int 32768),gp "AREA" (.int 28),gp "shifted" (.fn 410),gp "FIXED" (.int 113),gp "ac_bins" (.fn 403),gp "put_number" (.fn 424),gp "size_area" (.fn 396),gp "last_place" (.fn 417),gp "HALF" (.int 32768),gp "more_came" (.fn 256),gp "less_came" (.fn 263),gp "SPACE" (.int 19),gp "QmEncoder" (.val (.ref 567)),gp "DC_BOUNDS" (.lq [0,1]),gp "AC_SPLIT" (.int 5),gp "AcPart" (.val (.ref 469)),gp "ac_splits" (.fn 626),gp "DcPart" (.val (.ref 343)),gp "dc_bounds" (.fn 621),gp "DcRefinePart" (.val (.ref 385)),gp "AcRefinePart" (.val (.ref 511)),gp "ArithWriter" (.val (.ref 610)),gp "arith_parts" (.fn 633),gp "unit_count" (.fn 654),gp "units_across" (.fn 647),gp "unit_at" (.fn 661),gp "units" (.fn 668),gp "chosen_conditioning" (.fn 68),gp "scan_conditioning" (.fn 682),gp "parts" (.fn 696),gp "Frame" (.val (.ref 779)),gp "_law_take" (.fn 865),gp "Component" (.val (.ref 713)),gp "Grid" (.val (.ref 812)),gp "Scan" (.val (.ref 847)),gp "_law_units" (.fn 887),gp "MOST_TRIED" (.int 5),gp "data_size" (.fn 49),gp "arith_writer" (.fn 640),gp "grid_conditioning" (.fn 689),gp "_law_wanted" (.fn 897),gp "intervals_of" (.fn 675),gp "_law_intervals" (.fn 892),gp "_law_scan" (.fn 882),gp "_law_filled" (.fn 877),gp "_law_frame" (.fn 872),gp "_law_pool" (.fn 858)]
 blt:=["len","int","bytes","bytearray","abs","range","max","min","list","sorted","dict","set"]
 at_:=[(245,[0,1]),(343,[2,3,4,5,6,7]),(469,[2,8,9,10,11,4,12,5]),(567,[13,14,15,16]),(610,[17,18]),(713,[19,20,21,22]),(779,[23,24,25,26,27,9]),(812,[28,29]),(847,[30,31,32,33,11,34,4])]
 init:=[(245,242),(343,312),(469,445),(567,529),(610,586),(713,710),(779,731),(812,795),(847,830)]
 tV:=[(343,33,319),(343,40,326),(343,14,333),(469,33,452),(469,14,459),(567,35,536),(567,36,543),(567,37,550),(567,38,557),(567,39,564),(610,33,593),(610,14,600),(610,39,607),(779,45,736),(779,46,741),(779,47,748),(779,48,755),(779,44,762),(779,43,769),(779,49,776),(812,41,802),(812,35,809),(847,42,837)]}
end Mine
set_option maxHeartbeats 2000000
namespace Mine
section
variable{α:Type}{prog:aK}{w:bw}{A:bn}{E:ak->ar->Prop}{s:ar}
theorem Jm{o:ak}{name msg:bI}{Q:α->ar->Prop}(hh:A.handled=none)(hm:msg.length<=gA)
  (q:∀s' e,(∀a o,s.heap.get? a=af o->s'.heap.get? a=af o)->s'.gens=s.gens/\s'.os=s.os->s'.TypeIs e "AttributeError"->E e s'):
  aH (aE prog w) A (raiseAttrError o name msg:im α) Q E s:=by
 unfold raiseAttrError
 refine aj (wpAny_mkStr (aj ?_) hm)
 unfold Eh newTuple
 refine aj (cP ?_)
 refine aj (m:=jJ _ _) (bu (a:=c_) rfl ?_)
 refine cP ?_
 refine aj (wpAny_mkText (aj ?_))
 have he:=aN (s.heap.push {cls:=cS "tuple",data:=t_ #[mW msg s.toks]}) (o:={cls:=cS "AttributeError",data:=ii (#[du s.heap.objs.size,c_,c_,c_,Ij false,c_]++ownMembersOf (cS "AttributeError") [mW msg s.toks])}) rfl
 have hk:∀a o,s.heap.get? a=af o->((s.heap.push {cls:=cS "tuple",data:=t_ #[mW msg s.toks]}).push {cls:=cS "AttributeError",data:=ii (#[du s.heap.objs.size,c_,c_,c_,Ij false,c_]++ownMembersOf (cS "AttributeError") [mW msg s.toks])}:Heap).get? a=af o:=λ a o e=>aA _ (aA _ e)
 have hf:s.heap.get? (s.heap.push {cls:=cS "tuple",data:=t_ #[mW msg s.toks]}).objs.size=none:=df (by simp)
 generalize ((s.heap.push {cls:=cS "tuple",data:=t_ #[mW msg s.toks]}).push {cls:=cS "AttributeError",data:=ii (#[du s.heap.objs.size,c_,c_,c_,Ij false,c_]++ownMembersOf (cS "AttributeError") [mW msg s.toks])}:Heap)=H at he hk ⊢
 generalize (s.heap.push {cls:=cS "tuple",data:=t_ #[mW msg s.toks]}).objs.size=e at he hf ⊢
 have hT:∀t,({heap:=H,gens:=s.gens,drawn:=s.drawn,toks:=t,os:=s.os}:ar).TypeIs (.ref e) "AttributeError":=λ t=>⟨_,he,rfl⟩
 unfold noteAttr
 dsimp only
 refine aj ?_
 unfold lacksNameAndObj
 dsimp only
 refine aj (eQ (b:=true) (hT _) (by rw[cj]; kernel_rfl) ?_)
 rw[iP,bC aX]
 refine aj (iU he ?_)
 dsimp only
 refine bu (a:=true) rfl ?_
 rw[dq rfl]
 refine aj (mE ?_)
 refine aj (j8 (hT _) ?_)
 dsimp only
 unfold layMembers
 refine aj (iU he ?_)
 dsimp only
 refine wpAny_update he ?_
 refine wpAny_raiseNew_none hh (q _ _ (λ a o' e'=>?_) ⟨rfl,rfl⟩ ?_)
 ·exact(D3 _ _ (λ z:e=a=>by subst z; rw[hf] at e'; cases e')).trans (hk a o' e')
 ·exact⟨_,dK _ he rfl,rfl⟩
end
theorem Aw:hZ (.type "list") "keys"=pure none:=by rw[bF,a4]; kernel_rfl
section
variable{prog:aK}{w:bw}{A:bn}{E:ak->ar->Prop}{h:Heap}{g:bD d7}{d:Drawn}{t:Nat}{os:OsState}{l:au}{vs:bD ak}{n:Nat}
theorem E_{tk:kx}{R:Fin->ar->Prop}{Er:ak->ar->Prop}(hx:h.get? l=af ⟨.type "list",none, .seq vs n,#[]⟩)(hh:A.handled=none)
  (q:∀s' e,(∀a o,h.get? a=af o->s'.heap.get? a=af o)->s'.gens=g/\s'.os=os->s'.TypeIs e "AttributeError"->Er e s'):
  aH (aE prog w) A (bV.«object.__getattribute__» ⟨[.ref l, .str "keys" tk],[]⟩) R Er ⟨h,g,d,t,os⟩:=by
 have hT:(⟨h,g,d,t,os⟩:ar).TypeIs (.ref l) "list":=⟨_,hx,rfl⟩
 have f1:=Aw
 repeat (any_goals (first|assumption|wp_step))
 exact Jm (s:=⟨h,g,d,t,os⟩) hh (by rw[dZ]; decide+kernel) q
theorem I4{tk:kx}{R:iT->ar->Prop}(hx:h.get? l=af ⟨.type "list",none, .seq vs n,#[]⟩)(hh:A.handled=none)
  (q:∀s' e,(∀a o,h.get? a=af o->s'.heap.get? a=af o)->s'.gens=g/\s'.os=os->s'.TypeIs e "AttributeError"->R (.error e) s'):
  codeAny (aE prog w) A (.call (.builtin "list.__getattribute__") ⟨[.ref l, .str "keys" tk],[]⟩) R ⟨h,g,d,t,os⟩:=
 codeAny_call_builtin F.slot_list_getattribute.plain F.entry_list_ga (F.slot_list_getattribute.check _ _ _ _ _ _ _ _ (show(⟨h,g,d,t,os⟩:ar).TypeIs (.ref l) "list" from⟨_,hx,rfl⟩) (F.args_list_getattribute_2 _ _) (E_ hx hh q))
theorem I3{Q:aq ak->ar->Prop}{Er:ak->ar->Prop}(hx:h.get? l=af ⟨.type "list",none, .seq vs n,#[]⟩)(hh:A.handled=none)
  (q:∀s',(∀a o,h.get? a=af o->s'.heap.get? a=af o)->s'.gens=g/\s'.os=os->Q none s'):aH (aE prog w) A (getAttr? (.ref l) "keys") Q Er ⟨h,g,d,t,os⟩:=by
 have hT:(⟨h,g,d,t+1,os⟩:ar).TypeIs (.ref l) "list":=⟨_,hx,rfl⟩
 have f2:=F.slot_list_getattribute.lookup
 have f3:=F.slot_list_getattribute.bind (.ref l)
 unfold getAttr? getAttrBy?
 refine aj (wpAny_mkText ?_)
 refine aj ?_
 refine kY ?_
 unfold getAttrBy
 refine bU ?_
 refine aj (j8 hT ?_)
 refine aj (bu f2 ?_)
 dsimp only
 rw[bC (by decide)]
 unfold getAttrByItsOwn
 refine aj (bu (a:=none) rfl ?_)
 refine aj ?_
 refine kY ?_
 refine bU ?_
 unfold callGetattribute boundAndCalled
 rw[bC (by decide)]
 refine aj (bu f3 ?_)
 refine vZ (I4 (h:=h) (t:=t+1) hx hh λ s' e hk hz hT'=>?_)
 dsimp only
 unfold getattributeRaised
 refine aj (eQ (b:=true) hT' (by rw[cj]; kernel_rfl) ?_)
 rw[dq rfl]
 unfold hookBehind
 rw[bC (by decide)]
 refine aj (bu (a:=none) list_getattr_none ?_)
 unfold hookOrError attributeErrorLeaves
 dsimp only
 rw[dq (by decide)]
 refine aj (wpAny_throw ?_)
 refine aj (eQ (b:=true) hT' (by rw[cj]; kernel_rfl) ?_)
 rw[dq rfl]
 exact aw (q s' hk hz)
end
theorem kQ:plainId "dict.update.loop"=true:=by decide+kernel
theorem qb:fC table "dict.update.loop"=af bV.«dict.update.loop»:=entryFor_of_fast (by kernel_rfl)
section
variable{prog:aK}{w:bw}{A:bn}{s:ar}{d l I:au}{vs:bD ak}
noncomputable def ia(d I:au)(h:Heap):ae ak->ae (Int×ak)->Prop
 |[],[]=>True
 |u::us,(k,v)::kvs=>(∃a o ts n t,u= .ref a/\a≠d/\a≠I/\h.get? a=af o/\o.cls= .type "tuple"/\o.data= .seq ts n/\ts.toList=[.int k t,v])/\ia d I h us kvs
 |_,_=>False
theorem FM(kvs:ae (Int×ak))(k:Int)(v:ak):(tA kvs k v).length<=kvs.length+1:=by
 unfold tA
 split<;>simp
theorem ia.keeps{d I:au}{h h':Heap}(k:∀b o,b≠d->b≠I->h.get? b=af o->h'.get? b=af o):∀{us:ae ak} {kvs:ae (Int×ak)},ia d I h us kvs->ia d I h' us kvs
 |[],[]=>id
 |[],_::_=>id
 |_::_,[]=>id
 |_::us,y::kvs=>λ x=>⟨x.1.imp λ a=> .imp λ o=> .imp λ ts=> .imp λ n=> .imp λ t q=>⟨q.1,q.2.1,q.2.2.1,k a o q.2.1 q.2.2.1 q.2.2.2.1,q.2.2.2.2⟩,ia.keeps (us:=us) (kvs:=kvs) k x.2⟩
theorem N0{R:iT->ar->Prop}(hh:A.handled=none)(hdI:d≠I)(hdl:d≠l)(hIl:I≠l):∀(more:ae (Int×ak)) (i:Nat) (s:ar) (kvs:ae (Int×ak)),
  s.heap.DictOf (cE prog w) d kvs->s.heap.IsListIter I l i->s.heap.IsList l vs->ia d I s.heap (vs.toList.drop i) more->kvs.length+more.length<=1000->
  (∀s' h',s'={s with heap:=h',toks:=s'.toks}->h'.DictOf (cE prog w) d (more.foldl (λ k x=>tA k x.1 x.2) kvs)->(∀b o,b≠d->b≠I->s.heap.get? b=af o->h'.get? b=af o)->R (.ok (.ret .none)) s')->
  codeAny (aE prog w) A (.builtin "dict.update.loop" ⟨[.ref d, .ref I,nJ i, .none],[]⟩) R s:=by
 intro more
 induction more with
 |nil=>
  intro i s kvs hd it hl hp hz hR
  refine k8 qb ?_
  rw[eC kQ _]
  unfold bV.«dict.update.loop»
  show aH _ _ (gN (.ref I)>>=_) _ _ _
  have hn:vs.toList.drop i=[]:=by
   cases q:vs.toList.drop i with
   |nil=>rfl
   |cons u r=>rw[q] at hp; exact hp.elim
  refine aj (wpAny_pyNext_list_end hh it hl (by rw[← bP]; exact ff (F1.mp hn)) λ h' e=>?_)
  refine aw ?_
  refine hR {s with heap:=h'} h' rfl (hd.extBut e (λ z=>hdI z)) λ b o h1 h2 h3=>e b o h2 h3
 |cons x more ih=>
  intro i s kvs hd it hl hp hz hR
  obtain⟨k,v⟩:=x
  refine k8 qb ?_
  rw[eC kQ _]
  unfold bV.«dict.update.loop»
  show aH _ _ (gN (.ref I)>>=_) _ _ _
  cases hq:vs.toList.drop i with
  |nil=>rw[hq] at hp; exact hp.elim
  |cons u r=>
   rw[hq] at hp
   obtain⟨⟨a,o,ts,n,t,rfl,nad,naI,ho,hc,hdt,e⟩,hp⟩:=hp
   have hu:vs[i]?=af (.ref a):=by rw[← bP,← List.head?_drop,hq]; rfl
   refine aj (wpAny_pyNext_list_item it hl hu λ h' wP sb=>?_)
   dsimp only
   refine aj (bU ?_)
   have E1:h'.get? a=af o:=sb.extBut a o naI ho
   refine aj (wpAny_tryCatch ?_)
   unfold Builtin.Dict.pairItems
   refine aj (j8 (s:={s with heap:=h'}) (T:="tuple") ⟨_,E1,hc⟩ ?_)
   rw[dq (by decide)]
   refine aj (wpAny_seqItems E1 hdt ?_)
   refine aw ?_
   rw[show((af ts).getD #[]).toList=ts.toList from rfl,e]
   dsimp only
   refine bU ?_
   have LG:Heap.DictOf (cE prog w) h' d kvs:=hd.extBut sb.extBut (λ z=>hdI z)
   have UO:h'.IsList l vs:=by obtain⟨ol,x1,x2⟩:=hl; exact⟨ol,sb.extBut _ _ (λ z=>hIl z.symm) x1,x2⟩
   refine wpAny_dictSet_pairs (s:={s with heap:=h'}) (hsz:=by rw[dZ]; simp at hz; omega) (k:=k) (by show vk k (.int k t)=true; simp [vk]) LG λ h2 hd2 sb2=>?_
   refine aw ⟨kX kQ _,?_⟩
   have keep:∀b o,b≠d->b≠I->s.heap.get? b=af o->h2.get? b=af o:=λ b o n1 n2 q=>sb2.extBut b o n1 (sb.extBut b o n2 q)
   have:=ih (i+1) {s with heap:=h2,toks:=s.toks+1} (tA kvs k v) hd2 (wP.extBut sb2.extBut (λ z=>hdI z.symm)) (by obtain⟨ol,x1,x2⟩:=UO; exact⟨ol,sb2.extBut _ _ (λ z=>hdl z.symm) x1,x2⟩)
    (by
     rw[show vs.toList.drop (i+1)=r by rw[← List.drop_drop,hq]; rfl]
     exact hp.keeps keep) (by have:=FM kvs k v; simp at hz; omega) (λ s' h3 e3 UM k3=>hR s' h3 (by rw[e3]) UM λ b o n1 n2 q=>k3 b o n1 n2 (keep b o n1 n2 q))
   exact this
end
section
variable{prog:aK}{w:bw}{A:bn}{E:ak->ar->Prop}{s:ar}{l:au}{vs:bD ak}{n:Nat}
theorem uZ{more:ae (Int×ak)}{Q:ak->ar->Prop}(hh:A.handled=none)(hx:s.heap.get? l=af ⟨.type "list",none, .seq vs n,#[]⟩)(hp:∀d I,s.heap.get? d=none->s.heap.get? I=none->ia d I s.heap vs.toList more)(hz:more.length<=1000)
  (h:∀s',s'.gens=s.gens/\s'.gens=s.gens/\s'.os=s.os->s'.heap.DictOf (cE prog w) s.heap.objs.size (more.foldl (λ k x=>tA k x.1 x.2) [])->(∀b o,s.heap.get? b=af o->s'.heap.get? b=af o)->Q (.ref s.heap.objs.size) s'):
  aH (aE prog w) A (call (.type "dict") [.ref l]) Q E s:=by
 refine Ed (Q₁:=λ obj s₁=>obj= .ref s.heap.objs.size/\s₁={s with heap:=s.heap.push {cls:= .type "dict",data:= .dict #[]}}) F.kt_called_dict (F.kt_typeCall_dict_1 _) F.entry_dict_init (kt_code_dict_new _ ⟨rfl,rfl⟩) ?_
 rintro obj s₁ ⟨rfl,rfl⟩
 have u8:(s.heap.push {cls:= .type "dict",data:= .dict #[]}).DictOf (cE prog w) s.heap.objs.size []:=Heap.DictOf.new s.heap
 have WO:=aA {cls:= .type "dict",data:= .dict #[]} hx
 refine⟨u8.typeIs,F.args_dict_init_2 _ _,?_⟩
 unfold bV.«dict.__init__»
 refine aj ?_
 unfold Builtin.Dict.selfAndRest
 refine aj (mv u8.typeIs ?_)
 show aH _ _ (pure (s.heap.objs.size,[du l])) _ _ _
 refine aw ?_
 show aH _ _ (Builtin.Dict.updateFrom "dict.__init__" s.heap.objs.size (.ref l) [] .none) _ _ _
 unfold Builtin.Dict.updateFrom
 refine aj (j8 (T:="list") ⟨_,WO,rfl⟩ ?_)
 rw[dq (by decide)]
 refine aj (I3 WO hh λ s' k z=>?_)
 rw[dq (show(none:aq ak).isNone=true from rfl)]
 have kk:∀a o,s.heap.get? a=af o->s'.heap.get? a=af o:=λ a o e=>k a o (aA _ e)
 have Sy:s'.heap.IsList l vs:=⟨_,k _ _ WO,⟨rfl,n,rfl⟩⟩
 refine aj (mE ?_)
 refine aj (xX Sy ?_)
 refine aw ⟨kX kQ _,?_⟩
 have IY:s.heap.objs.size < s'.heap.objs.size:=by
  obtain⟨o,es,ep,ho,_⟩:=u8
  exact b9 (k _ _ ho)
 have hlI:l < s'.heap.objs.size:=b9 (k _ _ WO)
 have hls:l < s.heap.objs.size:=b9 hx
 have LG:(s'.heap.push {cls:=cS "list_iterator",data:=ii #[du l,eD 0 0]}).DictOf (cE prog w) s.heap.objs.size []:=by
  obtain⟨o,es,ep,ho,r⟩:=u8
  exact⟨o,es,ep,aA _ (k _ _ ho),r⟩
 have dead:∀a,s.heap.objs.size<=a->s.heap.get? a=none:=λ a ha=>by
  cases e:s.heap.get? a with
  |none=>rfl
  |some o=>exact bt (b9 e) (Nat.not_lt.mpr ha)
 have hx2:(s'.heap.push {cls:=cS "list_iterator",data:=ii #[du l,eD 0 0]}).IsList l vs:=by
  obtain⟨o,ho,r⟩:=Sy
  exact⟨o,aA _ ho,r⟩
 have hI:(s'.heap.push {cls:=cS "list_iterator",data:=ii #[du l,eD 0 0]}).IsListIter s'.heap.objs.size l 0:=⟨{cls:=cS "list_iterator",data:=ii #[du l,eD 0 0]},aN _ rfl,rfl,rfl⟩
 refine N0 (A:=A.in1) (d:=s.heap.objs.size) (I:=s'.heap.objs.size) (l:=l) (vs:=vs) (show A.in1.handled=none from hh) (dO IY) (uU hls) (uU hlI) more 0 {s' with heap:=s'.heap.push {cls:=cS "list_iterator",data:=ii #[du l,eD 0 0]}} [] LG hI hx2 ?_ (by simpa using hz) ?_
 ·refine ia.keeps (h:=s.heap) (λ b o aa aa e=>aA _ (kk b o e)) ?_
  exact hp _ _ (dead _ (cF _)) (dead _ (by omega))
 ·intro s2 h2 e2 hd2 k2
  refine⟨rfl,h s2 ?_ ?_ λ b o e=>?_⟩
  ·rw[e2]; exact⟨z.1,z.1,z.2⟩
  ·rw[e2]; exact hd2
  ·rw[show s2.heap=h2 by rw[e2]]
   refine k2 b o (λ z=>?_) (λ z=>?_) (aA _ (kk b o e))
   ·subst z; rw[dead _ (cF _)] at e; cases e
   ·subst z; rw[dead _ (by omega)] at e; cases e
end
def ML{α:Type}(o:aq α)(K:α->Prop):Prop:=match o with
 |some a=>K a
 |none=>False
theorem ML.u{α:Type}{o:aq α}{K:α->Prop}{Q:Prop}(h:ML o K)(k:∀a,o=af a->K a->Q):Q:=by
 rcases o with _|a
 ·exact h.elim
 ·exact k a rfl h
theorem Hw{α:Type}{o:aq α}{K:α->Prop}{a:α}(e:o=af a)(k:K a):ML o K:=e▸k
noncomputable def P9(a:AV):aq Int:=match a with
 | .int i=>af i
 |_=>none
theorem P9.u{a:AV}{i:Int}(h:P9 a=af i){Q:AV->Prop}(k:Q (.int i)):Q a:=by
 rcases a with _|_|_|j|_|_|_|_|_|_|_|_|_|_|_|_|_|_
 case int=>exact am h▸k
 all_goals exact cm h
noncomputable def pr2(xs:ae AV):aq (Int×AV):=match xs with
 |[k,v]=>ob (P9 k) λ i=>af (i,v)
 |_=>none
noncomputable def Zv(a:AV):aq (Int×AV):=match a with
 | .tup xs=>pr2 xs
 |_=>none
theorem Zv.u{a:AV}{x:Int×AV}(h:Zv a=af x){Q:AV->Prop}(k:Q (.tup [.int x.1,x.2])):Q a:=by
 rcases a with _|_|_|_|_|_|_|_|_|_|xs|_|_|_|_|_|_|_
 case tup=>
  rcases xs with _|⟨y,_|⟨z,_|_⟩⟩
  case cons.cons.nil=>exact ob.u h λ i e h=>P9.u e (Q:=λ y=>Q (.tup [y,z])) (am h▸k:Q (.tup [.int (i,z).1,(i,z).2]))
  all_goals exact cm h
 all_goals exact cm h
noncomputable abbrev w7:ae AV->aq (ae (Int×AV)):=i5 Zv
def yq(d:ae Int×ae AV)(x:Int×AV):ae Int×ae AV:=(qg d.1 x.1,Do d.1 d.2 x.1 x.2)
noncomputable def JR(G:BM)(ρ:ae au):ae (Int×AV)->ae (Int×ak)->Prop
 |[],m=>m=[]
 |x::r,m=>∃y q,m=(x.1,y)::q/\VR G ρ x.2 y/\JR G ρ r q
theorem JR.len{G:BM}{ρ:ae au}:∀{l:ae (Int×AV)} {m:ae (Int×ak)},JR G ρ l m->m.length=l.length
 |[],_=>λ h=>(show _=[] from h)▸rfl
 |_::_,_=>λ h=>h.elim λ y h=>h.elim λ q h=>h.1▸ah rH (JR.len h.2.2)
theorem zh{G:BM}{ρ:ae au}{h:Heap}(kg:∀a o,G a=af o->h.get? a=af o):∀{xs:ae AV} {us:ae ak} {kvs:ae (Int×AV)},w7 xs=af kvs->bJ G ρ xs us->
  ∃more:ae (Int×ak),(∀d I,h.get? d=none->h.get? I=none->ia d I h us more)/\JR G ρ kvs more
 |[],us,kvs=>λ e v=>v.u0 (Q:=λ us=>∃more:ae (Int×ak),(∀d I,h.get? d=none->h.get? I=none->ia d I h us more)/\JR G ρ kvs more) ⟨[],λ aa aa aa aa=>trivial,am e▸rfl⟩
 |x::r,us,kvs=>λ e v=>v.uc (Q:=λ us=>∃more:ae (Int×ak),(∀d I,h.get? d=none->h.get? I=none->ia d I h us more)/\JR G ρ kvs more) λ u ur vu vr=>ob.u e λ w e1 e=>ob.u e λ l e2 e=>(zh kg e2 vr).elim λ more z=>
  (Zv.u e1 (Q:=λ x=>VR G ρ x u->∃more:ae (Int×ak),(∀d I,h.get? d=none->h.get? I=none->ia d I h (u::ur) more)/\JR G ρ kvs more) λ vu=>vu.Jy (Q:=λ u=>∃more:ae (Int×ak),(∀d I,h.get? d=none->h.get? I=none->ia d I h (u::ur) more)/\JR G ρ kvs more) λ a o vs g t hv=>
   t.2.elim λ n hdt=>(hv.u2 (Q:=λ ys=>vs.toList=ys->∃more:ae (Int×ak),(∀d I,h.get? d=none->h.get? I=none->ia d I h (.ref a::ur) more)/\JR G ρ kvs more) λ y yr vy vz=>vy.iu (Q:=λ y=>vs.toList=[y,yr]->∃more:ae (Int×ak),(∀d I,h.get? d=none->h.get? I=none->ia d I h (.ref a::ur) more)/\JR G ρ kvs more) λ tk ey=>
    ⟨(w.1,yr)::more,λ d I hd hI=>⟨⟨a,o,vs,n,tk,rfl,λ q=>dh hd (q▸kg _ _ g),λ q=>dh hI (q▸kg _ _ g),kg _ _ g,t.1,hdt,ey⟩,z.1 d I hd hI⟩,am e▸⟨yr,more,rfl,vz,z.2⟩⟩) rfl) vu
structure zI(G:BM)(ρ:ae au)(d:ae Int×ae AV)(m:ae (Int×ak)):Prop where
 ks:m.map (·.1)=d.1
 vs:bJ G ρ d.2 (m.map (·.2))
 nd:d.1.Nodup
theorem zI.put{G:BM}{ρ:ae au}{d:ae Int×ae AV}{m:ae (Int×ak)}(I:zI G ρ d m){k:Int}{v:AV}{y:ak}(hv:VR G ρ v y):zI G ρ (yq d (k,v)) (tA m k y):=by
 rw[show tA m k y=_ from vK k (λ kv=>(kv.1,y)) (k,y) m (I.ks▸I.nd)]
 have z:=qG (n:=k) Pv (val:=id) (f:=λ aa=>y) hv rfl (λ aa=>rfl) (xs:=m) (vs:=d.2) I.vs
 exact⟨z.1.trans (ah (qg · k) I.ks),(ah (λ ks=>bJ G ρ (jZ Lc ks d.2 k v) ((sp k (λ kv=>(kv.1,y)) (k,y) m).map λ x:Int×ak=>x.2)) I.ks).mp z.2,(uI I.nd).1⟩
theorem zI.fold{G:BM}{ρ:ae au}:∀{kvs:ae (Int×AV)} {more:ae (Int×ak)} {d:ae Int×ae AV} {m:ae (Int×ak)},JR G ρ kvs more->zI G ρ d m->zI G ρ (kvs.foldl yq d) (more.foldl (λ k x=>tA k x.1 x.2) m)
 |[],more,d,m=>λ h I=>(show more=[] from h)▸I
 |x::r,more,d,m=>λ h I=>h.elim λ y h=>h.elim λ q h=>h.1▸zI.fold (kvs:=r) (more:=q) (d:=yq d x) h.2.2 (I.put h.2.1)
def dctP(kvs:ae (Int×AV)):AO:= .iO (kvs.foldl yq ([],[])).1 (kvs.foldl yq ([],[])).2
def s8:wb:=λ a σ K=>nt a σ.mem λ xs=>ML (w7 xs) λ kvs=>cK (bB kvs.length 1000) (K (.own σ.mem.length) ⟨σ.loc,σ.mem++[dctP kvs]⟩)
section
variable{P:cC}{ct:Ct}
noncomputable def Ou:ae (Int×TV)->ae (Int×AV)->Prop
 |[],m=>m=[]
 |x::r,m=>∃y q,m=(x.1,y)::q/\GV x.2 y/\Ou r q
theorem Ou.len:∀{l:ae (Int×TV)} {m:ae (Int×AV)},Ou l m->m.length=l.length
 |[],_=>λ h=>(show _=[] from h)▸rfl
 |_::_,_=>λ h=>h.elim λ y h=>h.elim λ q h=>h.1▸ah rH (Ou.len h.2.2)
noncomputable def adG(t:TV):aq {x:Int×TV // ∀v,GV t v->∃w,Zv v=af (x.1,w)/\GV x.2 w}:=ob (tTp t) λ c=>ob (lz c.1.1) λ k=>af ⟨(k.1,c.1.2),λ v g=>(c.2▸g:GV (.tp c.1.1 c.1.2) v).elim λ a g=>g.elim λ b g=>⟨b,g.1▸(lC g.2.1 k.2).symm▸rfl,g.2.2⟩⟩
noncomputable def NK:(ts:ae TV)->aq {kvs:ae (Int×TV) // ∀vs,dH ts vs->∃u9,w7 vs=af u9/\Ou kvs u9}
 |[]=>af ⟨[],λ vs g=>g.u0 (Q:=λ vs=>∃u9,w7 vs=af u9/\Ou [] u9) ⟨[],rfl,rfl⟩⟩
 |t::r=>ob (adG t) λ x=>ob (NK r) λ l=>af ⟨x.1::l.1,λ vs g=>g.uc (Q:=λ vs=>∃u9,w7 vs=af u9/\Ou (x.1::l.1) u9) λ v us gv gu=>(x.2 v gv).elim λ w z=>(l.2 us gu).elim λ u9 y=>⟨(x.1.1,w)::u9,bZ z.1 y.1,w,u9,rfl,z.2,y.2⟩⟩
def zy(d:ae Int×ae TV)(x:Int×TV):ae Int×ae TV:=(qg d.1 x.1,NR d.1 d.2 x.1 x.2)
theorem xz:∀{ks:ae Int} {ts:ae TV} {x:Int} {t:TV},ks.length=ts.length->(ny Lc ks x).length=(jZ Lc ks ts x t).length
 |[],[],_,_=>λ aa=>rfl
 |k::ks,t::ts,x,u=>λ l=>by
  cases q:Lc k x with
  |true=>rw[qH q,oA q]; exact l
  |false=>rw[mP q,lx q]; exact ah (·+1) (xz (eL l))
 |[],_::_,_,_=>λ l=>bt l.symm (cy _)
 |_::_,[],_,_=>λ l=>bt l (cy _)
structure yy(d:ae Int×ae TV)(e:ae Int×ae AV):Prop where
 ks:e.1=d.1
 vs:dH d.2 e.2
 ln:d.1.length=d.2.length
theorem yy.fold:∀{kvs:ae (Int×TV)} {u9:ae (Int×AV)} {d:ae Int×ae TV} {e:ae Int×ae AV},Ou kvs u9->yy d e->yy (kvs.foldl zy d) (u9.foldl yq e)
 |[],u9,d,e=>λ h I=>(show u9=[] from h)▸I
 |x::r,u9,d,e=>λ h I=>h.elim λ y h=>h.elim λ q h=>h.1▸yy.fold (kvs:=r) (u9:=q) (d:=zy d x) (e:=yq e (x.1,y)) h.2.2 ⟨ah (qg · x.1) I.ks,(ah (λ ks=>dH (zy d x).2 (jZ Lc ks e.2 x.1 y)) I.ks).mpr (qh h.2.1 I.ln I.vs),xz I.ln⟩
def Tj(kvs:ae (Int×TV)):TO:= .iO (kvs.foldl zy ([],[])).1 (kvs.foldl zy ([],[])).2
theorem Ru{m:ae AO}{kvs:ae (Int×TV)}{u9:ae (Int×AV)}(h:Ou kvs u9):GO m (Tj kvs) (dctP u9):=
 have I:yy (kvs.foldl zy ([],[])) (u9.foldl yq ([],[])):=yy.fold h ⟨rfl,rfl,rfl⟩
 ⟨_,ah (AO.iO · (u9.foldl yq ([],[])).2) I.ks,I.vs⟩
def K8(t:TV)(s:AS):aq (ae (TV×AS)):=ob (vO t s) λ c=>ob (NK c.1.2) λ kvs=>nB (bB kvs.1.length 1000) (af [(.ex (.own s.mem.length),⟨s.loc,s.mem++[Tj kvs.1]⟩)])
theorem IM{t:TV}{s:AS}{outs:ae (TV×AS)}{a:AV}{σ:St}(h:K8 t s=af outs)(ga:GV t a)(gs:GS s σ):D2 (s8 a σ) GV outs:=
 ob.u h λ c aa h=>ob.u h λ kvs aa h=>nB.u h λ hl h=>gs.lst c ga (Q:=λ a=>D2 (s8 a σ) GV outs) λ us m gu=>(kvs.2 us gu).elim λ u9 z=>
  D2.one (a:=AV.own σ.mem.length) (σ:=⟨σ.loc,σ.mem++[dctP u9]⟩) h (ah AV.own gs.mem.len.symm) ⟨gs.loc,gs.mem.app (Ru z.2) rfl⟩ λ K k=>dI m (Hw z.1 (cK.i ((ah (bB · 1000) z.2.len).trans hl) k))
theorem IN:OE P ct (.type "dict") false s8:=λ F G ρ σ s Kv a v aa O R va h=>
 nt.u (Q:=λ v=>WP P F.A (call (.type "dict") [v] []) (PE F ct.aS G ρ Kv) s) h R va λ l o us xs ho hl hv h=>h.u λ kvs e h=>h.u λ hz h=>(zh R.rm.kg e hv).elim λ more z=>hl.elim λ n hl=>
  X.any (uZ (more:=more) O.room.2.2 (hl▸ho) z.1 (aG (aV z.2.len) (aQ hz)) λ s' w D' keep=>by
   have I:zI G ρ (kvs.foldl yq ([],[])) (more.foldl (λ k x=>tA k x.1 x.2) []):=zI.fold z.2 ⟨rfl,bJ.nil,gC⟩
   obtain⟨o',Bn,JW,E1,hc',LG,hk',hp',Sz⟩:=D'
   exact PE.Fo (ao:=dctP kvs) R R.K0 E1 ⟨hc',Bn,JW,_,LG,I.ks▸x3.of hp' λ e he=>hk' e (gM.mp he),bJ.up (dG.refl _) (Ext.snoc _ _) _ I.vs,I.nd⟩ keep w h)
def O4:Bf P ct:=Sd "dict" (.type "dict") s8 false (λ aa e=>nomatch e) IN K8 λ t s outs a σ h ga gs=>IM h ga gs
def Wv(q:c9)(as:SL P ct)(p:c9):SE P ct:=xB O4 q as p
end
section
variable{prog:aK}{w:bw}{A:bn}{E:ak->ar->Prop}{s:ar}
theorem Cg{id:cQ}{o:au}{oo:Obj}{e:bf}{ep:Nat}{a:au}{Q:bD bf->ar->Prop}(ho:s.heap.get? o=af oo)(hd:oo.data= .dict #[e] ep)(ha:e.key= .ref a)(ht:s.TypeIs (.ref a) "tuple")(h:Q #[e] s):
  aH (aE prog w) A (Builtin.Dict.entriesForEmpty id o) Q E s:=by
 unfold Builtin.Dict.entriesForEmpty
 refine aj (ei ho hd ?_)
 rw[← Array.forIn_toList]
 show aH _ _ (forIn [e] _ _>>=_) _ _ _
 rw[xJ]
 refine aj (aj ?_)
 unfold Builtin.Dict.quietEq
 rw[ha]
 dsimp only
 refine aj (aj (cX ht PySem.F.slot_tuple_eq.lookup (aw ?_)))
 rw[dq (by decide)]
 have hf:¬(Array.filter (λ x=>x.hash==e.hash) #[e]).size > 1:=by
  have:=Array.size_filter_le (p:=λ x:bf=>x.hash==e.hash) (xs:=#[e])
  simp at this ⊢<;>omega
 rw[bC hf]
 exact aw (aw (aw h))
theorem EG{o:au}{oo:Obj}{es:bD bf}{ep:Nat}{Q:ak->ar->Prop}(hoS:(o==di)=false)(ho:s.heap.get? o=af oo)(hc:oo.ExactDict)(hd:oo.data= .dict es ep)
  (hk:∀e∈es.toList,∃a ob,e.key= .ref a/\s.heap.get? a=af ob/\ob.cls= .type "tuple") (hz:es.size<=1)
  (h:∀h' o' JW,h'.get? s.heap.objs.size=af o'->o'.ExactDict->o'.data= .dict es JW->(∀b x,s.heap.get? b=af x->h'.get? b=af x)->Q (.ref s.heap.objs.size) {s with heap:=h'}):
  aH (aE prog w) A (call (.type "dict") [.ref o]) Q E s:=by
 refine Ed (Q₁:=λ obj s₁=>obj= .ref s.heap.objs.size/\s₁={s with heap:=s.heap.push {cls:= .type "dict",data:= .dict #[]}}) PySem.F.kt_called_dict (PySem.F.kt_typeCall_dict_1 _) PySem.F.entry_dict_init (kt_code_dict_new _ ⟨rfl,rfl⟩) ?_
 rintro obj s₁ ⟨rfl,rfl⟩
 have u8:(s.heap.push {cls:= .type "dict",data:= .dict #[]}).get? s.heap.objs.size=af {cls:= .type "dict",data:= .dict #[]}:=aN _ rfl
 have E1:(s.heap.push {cls:= .type "dict",data:= .dict #[]}).get? o=af oo:=aA _ ho
 have hdo:s.heap.objs.size≠o:=λ e=>bt (b9 ho) (by rw[e]; exact fA _)
 have hT:Shared.TypeIs {s with heap:=s.heap.push {cls:= .type "dict",data:= .dict #[]}} (.ref o) "dict":=⟨_,E1,hc.1⟩
 have hTn:Shared.TypeIs {s with heap:=s.heap.push {cls:= .type "dict",data:= .dict #[]}} (.ref s.heap.objs.size) "dict":=⟨_,u8,rfl⟩
 refine⟨hTn,PySem.F.args_dict_init_2 _ _,?_⟩
 unfold bV.«dict.__init__»
 refine aj ?_
 unfold Builtin.Dict.selfAndRest
 refine aj (mv hTn ?_)
 show aH _ _ (pure (s.heap.objs.size,[du o])) _ _ _
 refine aw ?_
 show aH _ _ (Builtin.Dict.updateFrom "dict.__init__" s.heap.objs.size (.ref o) [] .none) _ _ _
 unfold Builtin.Dict.updateFrom
 refine aj (j8 hT ?_)
 rw[bC (by decide)]
 refine aj ?_
 unfold Builtin.Dict.merge
 refine aj ?_
 unfold Builtin.Dict.readDirectly
 refine aj (eQ hT isSubtype_dict_dict ?_)
 simp only[iP,tj,if_false]
 refine aj (cX hT PySem.F.slot_dict_iter.lookup (aw ?_))
 simp only[qS,if_true]
 refine aj (aw ?_)
 unfold Builtin.Dict.mergeDict
 rw[bC (by simpa using hdo)]
 unfold Builtin.Dict.showsAll
 rw[bC (by rw[hoS]; exact aX)]
 refine aj (aw ?_)
 refine aj (ei E1 hd ?_)
 dsimp only
 obtain⟨l⟩:=es
 have hc2:l=[]\/∃e,l=[e]:=by
  cases l with
  |nil=>exact .inl rfl
  |cons e r=>
   cases r with
   |nil=>exact .inr ⟨e,rfl⟩
   |cons e' r=>exact bt hz (by simp)
 rcases hc2 with rfl|⟨e,rfl⟩
 ·rw[bC (by simp)]
  refine aj (nK E1 hd ?_)
  refine aj (ei E1 hd ?_)
  rw[na]
  simp only[Std.Legacy.Range.size,Nat.sub_zero,Nat.add_sub_cancel,Nat.div_one]
  show aH _ _ (forIn ([]:ae Nat) _ _>>=_) _ _ _
  rw[List.forIn_nil]
  exact aj (aw (aw (aj (aw (aw ⟨rfl,h _ _ _ u8 ⟨rfl,rfl,rfl⟩ rfl λ b x q=>aA _ q⟩)))))
 ·obtain⟨a,ob,e1,e2,e3⟩:=hk e aR
  rw[dq (by obtain⟨_,_,_⟩:=e; subst e1; kernel_rfl)]
  refine aj (ei u8 rfl ?_)
  rw[dq (by rfl)]
  refine aj (Cg E1 hd e1 ⟨ob,aA _ e2,e3⟩ ?_)
  rw[dq (by rfl)]
  refine aj (wpAny_updateDictKeysTo u8 rfl (aw ?_) (by simp))
  exact aj (aw (aw ⟨rfl,h _ _ _ (dK _ u8 rfl) ⟨rfl,rfl,rfl⟩ rfl λ b x q=>(D3 _ _ (λ z=>bt (b9 q) (by rw[← z]; exact fA _))).trans (aA _ q)⟩))
end
section
variable{P:cC}{ct:Ct}
def xh:wb:=λ a σ K=>md a σ.mem λ ks vs=>cK (bB ks.length 1) (K (.own σ.mem.length) ⟨σ.loc,σ.mem++[.bG ks vs]⟩)
noncomputable def XR(o:AO):aq {c:ae (ae Int)×ae AV // o= .bG c.1 c.2}:=match o with
 | .bG ks vs=>af ⟨(ks,vs),rfl⟩
 |_=>none
def abM(a:AV)(m:ae AO):aq {c:ae (ae Int)×ae AV // ∀K:ae (ae Int)->ae AV->Prop,K c.1 c.2->md a m K}:=match a with
 | .own p=>jS (bM m p) λ o ho=>ob (XR o) λ c=>af ⟨c.1,λ K z=>dI ho (c.2▸z)⟩
 | .bG ks vs=>af ⟨(ks,vs),λ K z=>z⟩
 |_=>none
def Px(a:AV)(σ:St):aq {r:AV×St // tF (xh a σ) r}:=ob (abM a σ.mem) λ d=>bE (bB d.1.1.length 1) λ h=>af ⟨(.own σ.mem.length,⟨σ.loc,σ.mem++[.bG d.1.1 d.1.2]⟩),λ K z=>d.2 _ (cK.i h z)⟩
theorem IL:OE P ct (.type "dict") false xh:=λ F G ρ σ s Kv a v aa O R va h=>by
 rcases zd O R va h with⟨d,o,es,ep,us,ks,dx,rfl,ho,hc,ns,hd,hk,hv,hn,h⟩
 exact h.u λ hl h=>(hk.rows (prog:=P.prog) (w:=P.w)).elim λ xs z=>
  X.any (EG (ed.mpr ns) ho hc hd (λ e he=>(dN.mp (z.2.2.1▸he)).elim λ x w=>(z.2.2.2 x w.1).elim λ o' t=>t.elim λ vs t=>⟨x.2.1,o',ah DictEntry.key w.2.symm,R.rm.kg _ _ t.1,t.2.1.1⟩)
   (aG (aV (bh.symm.trans ((ah f4 z.2.2.1).trans ((bL _).trans ((bL _).symm.trans (ah f4 z.1)))))) (aQ hl))
   λ h' o' JW g c' d' keep=>PE.Fo (ao:= .bG ks dx) (s':={s with heap:=h'}) R R.K0 g ⟨c',es,JW,us,d',hk,bJ.up (dG.refl _) (Ext.snoc _ _) _ hv,hn⟩ keep ⟨rfl,rfl,rfl⟩ h)
def O3:Bf P ct:=Sd "dict" (.type "dict") xh false (λ aa e=>nomatch e) IL (XY Px) Aa
def Wu(q:c9)(as:SL P ct)(p:c9):SE P ct:=xB O3 q as p
end
theorem cx.ints:∀{ns:ae Int} {vs:ae ak},cx ns vs->IntsAre vs ns
 |[],_=>λ h=>h.u0 (Q:=λ vs=>IntsAre vs []) .nil
 |n::r,_=>λ h=>h.uc (Q:=λ vs=>IntsAre vs (n::r)) λ t aa h=> .cons n t h.ints
section
variable{prog:aK}{w:bw}{A:bn}{E:ak->ar->Prop}{s:ar}
theorem Qd{k:Int}{v:ak}(h:(cE prog w).is k v=true):∃t,v= .int k t:=by
 rcases v with _|_|_|_|⟨n,t⟩|_|_|_|_|_|_
 case int=>exact⟨t,ah (eD · t) (a_.mp (show(n==k)=true from h))⟩
 all_goals exact ay (show false=true from h)
theorem y9:∀{kvs:ae (Int×ak)} {vs:ae ak},vs.length=kvs.length->(∀(j:Nat) (v:ak),vs[j]?=af v->∃k x,kvs[j]?=af (k,x)/\(cE prog w).is k v=true)->cx (kvs.map (·.1)) vs
 |[],vs=>λ l aa=>cZ.mp l
 |x::r,[]=>λ l=>bt l.symm (cy _)
 |x::r,v::vs=>λ l h=>(h 0 v rfl).elim λ k w=>w.elim λ y w=>(Qd w.2).elim λ t e=>⟨t,vs,(ah (λ z:Int×ak=>eD z.1 t::vs) (am w.1)).symm▸e▸rfl,y9 (eL l) λ j u hu=>h (j+1) u hu⟩
theorem tM{d:au}{kvs:ae (Int×ak)}{ep:Nat}{Q:ak->ar->Prop}(hh:A.handled=none)(lo:(d==di)=false)(hd:s.heap.DictAt (cE prog w) d kvs ep)(h64:kvs.length < 64)
  (h:∀h' tk vs (o:au) (n:Nat),cx (nI (kvs.map (·.1))) vs->s.heap.get? o=none->h'.get? o=af {cls:= .type "list",dict:=none,data:= .seq vs.toArray n,slots:=#[]}->(∀b x,s.heap.get? b=af x->h'.get? b=af x)->Q (.ref o) {s with heap:=h',toks:=tk}):
  aH (aE prog w) A (call (.builtin "sorted") [.ref d]) Q E s:=by
 refine nF kind_sorted plain_sorted entry_sorted (args_sorted1 _) ?_
 unfold bV.«sorted»
 refine aj (m:=checkCount "sorted" 1 1 _) (aw ?_)
 refine aj (kdu_collect (A:=A.in1) (kdl_dict (knd:=cE prog w) (kvs:=kvs) (ep:=ep) lo) hh hd (by rw[dZ]; omega) λ h' tk acc hk LC=>?_)
 have hl:acc.toList.length=kvs.length:=by rw[bh]; exact LC.1
 refine aj (wpAny_newList ?_ (by rw[hl,dZ]; omega))
 have hI:cx (kvs.map (·.1)) acc.toList:=y9 (prog:=prog) (w:=w) hl λ j v e=>LC.2 j v (by rw[← bP]; exact e)
 have JY:(h'.push (seqObj "list" acc.toList.toArray 0)).get? h'.objs.size=af (seqObj "list" acc.toList.toArray 0):=aN _ rfl
 have LI:s.heap.get? h'.objs.size=none:=by
  cases e:s.heap.get? h'.objs.size with
  |none=>rfl
  |some o=>exact bt (b9 (hk _ _ e)) (fA _)
 refine aj (bU (cA slot_list_sort ⟨_,JY,rfl⟩ entry_list_sort (list_sort_tree JY hI.ints (by rw[hl]; exact h64) λ out Br a1 a2 a3=>⟨_,rfl,?_⟩) (args_list_sort _)))
 obtain⟨n,hn⟩:=sortedHeap_at (vs:=acc.toList) (out:=out) JY
 refine aw ⟨_,rfl,h _ tk out.toList h'.objs.size n (by rw[← eq_sortI a2 a3]; exact cx.Hr a1) LI (by rw[D8]; exact hn) λ b x q=>?_⟩
 have hb:=b9 (hk _ _ q)
 rw[sortedHeap_old (dO hb) (by rw[size_push']; exact Nat.lt_succ_of_lt hb)]
 exact aA _ (hk _ _ q)
end
section
variable{P:cC}{ct:Ct}
def K4(o:AO)(K:ae Int->Prop):Prop:=match o with
 | .iO ks _=>K ks
 |_=>False
theorem K4.u{o:AO}{K:ae Int->Prop}{Q:AO->Prop}(h:K4 o K)(k:∀ks vs,K ks->Q (.iO ks vs)):Q o:=by
 rcases o with _|_|_|_|⟨ks,vs⟩|_|_|_
 case iO=>exact k ks vs h
 all_goals exact h.elim
noncomputable def abL(o:AO):aq {c:ae Int // ∀K:ae Int->Prop,K c->K4 o K}:=match o with
 | .iO ks _=>af ⟨ks,λ aa z=>z⟩
 |_=>none
noncomputable def ac_(a:AV):aq {p:Nat // a= .own p}:=match a with
 | .own p=>af ⟨p,rfl⟩
 |_=>none
def s9:wb:=λ a σ K=>lL a λ p=>pJ σ.mem p λ o=>K4 o λ ks=>cK (bB ks.length 9) (K (.own σ.mem.length) ⟨σ.loc,σ.mem++[.il (nI ks)]⟩)
def Py(a:AV)(σ:St):aq {r:AV×St // tF (s9 a σ) r}:=ob (ac_ a) λ p=>jS (bM σ.mem p.1) λ o ho=>ob (abL o) λ c=>bE (bB c.1.length 9) λ h=>af ⟨(.own σ.mem.length,⟨σ.loc,σ.mem++[.il (nI c.1)]⟩),λ K z=>p.2▸(dI ho (c.2 _ (cK.i h z)):s9 (.own p.1) σ K)⟩
theorem RR{α β:Type}{k:ae α}{l:ae β}(e:l.length=k.length):(k.zip l).map (·.1)=k:=hJ (aV e.symm)
theorem Jv:OE P ct (.builtin "sorted") false s9:=λ F G ρ σ s Kv a v aa O R va h=>
 lL.u (Q:=λ a=>VR G ρ a v->WP P F.A (call (.builtin "sorted") [v] []) (PE F ct.aS G ρ Kv) s) h (λ p h va=>h.u λ o e h=>R.own va e (Q:=λ v=>WP P F.A (call (.builtin "sorted") [v] []) (PE F ct.aS G ρ Kv) s) λ adr ob jN h1 w=>K4.u (Q:=λ o=>OR G ρ o ob->WP P F.A (call (.builtin "sorted") [.ref adr] []) (PE F ct.aS G ρ Kv) s) h (λ ks vs h w=>h.u λ hz h=>
  w.2.elim λ es w2=>w2.elim λ ep w2=>w2.elim λ us w2=>have z:=w2.2.1.pairs (prog:=P.prog) (w:=P.w)
   have hm:(ks.zip us).map (·.1)=ks:=RR z.2.2
   X.any (tM (kvs:=ks.zip us) (ep:=ep) O.room.2.2 (ed.mpr (AT O R (iq jN))) ⟨ob,es,h1,w.1,w2.1,λ e he=>z.2.1 e (gM.mpr he),z.1,hm.symm▸w2.2.2.2⟩
    (aU (aV ((bL _).symm.trans (ah f4 hm))) (aU (aQ hz) (by decide)))
    λ h' tk rB o n hi ho1 UQ keep=>PE.Fo (ao:= .il (nI ks)) (s':={s with heap:=h',toks:=tk}) R ho1 UQ ⟨rB.toArray,⟨_,rfl⟩,(ah (λ l=>cx (nI l) rB) hm).mp hi⟩ keep ⟨rfl,rfl,rfl⟩ h)) w) va
def O5:Bf P ct:=Sd "sorted" (.builtin "sorted") s9 false (λ aa e=>nomatch e) Jv (XY Py) Aa
def N9(q:c9)(as:SL P ct)(p:c9):SE P ct:=xB O5 q as p
end
noncomputable def X8:ae aC->ae AV->ae AV
 |b::r,v::l=>aY b .undef v::X8 r l
 |[],l=>l
 |_::_,[]=>[]
theorem G1:∀{b:ae aC} {l:ae AV} {i:Nat} {v:AV},(X8 b l)[i]?=af v->v≠ .undef->l[i]?=af v
 |true::b,x::r,0,v=>λ h n=>bt (am h).symm n
 |false::b,x::r,0,v=>λ h aa=>h
 |_::b,x::r,i+1,v=>λ h n=>G1 (b:=b) (l:=r) (i:=i) h n
 |[],l,i,v=>λ h aa=>h
 |_::_,[],i,v=>λ h aa=>cm h
def VH(n:Nat)(m:ae AO):Fl->aq Fl
 | .d8=>af .d8
 | .ret v=>ob (lZ n m 12 v) λ w=>af (.ret w)
def fzF(n:Nat)(fg:ae aC)(f:Fl)(σ:St):aq (Fl×St):=ob (VH n σ.mem f) λ f'=>ob (i5 (lZ n σ.mem 12) (X8 fg σ.loc)) λ l=>ob (i5 (yt n σ.mem 12) (Rv n σ.mem)) λ m=>af (f',⟨l,m⟩)
def Lq(n:Nat)(fg:ae aC)(K:Fl->St->Prop)(f:Fl)(σ:St):Prop:=ML (fzF n fg f σ) λ r=>K r.1 r.2
section
variable{P:cC}{ct:Ct}
theorem VI{n k:Nat}{m:ae AO}{v w:AV}(h:lZ n m (k+1) v=af w)(nv:w≠ .undef):v≠ .undef:=λ e=>nv (am ((e▸h:lZ n m (k+1) .undef=af w).symm.trans rfl))
theorem RF.fz{F:Fd}{G G':BM}{ρ τ:ae au}{σ b8:St}{s s':ar}{fg:ae aC}{l:ae AV}{m:ae AO}(O:gO P ct F)(R:RF F ct.aS G ρ σ s)(R':RF F ct.aS G' (ρ++τ) b8 s')
  (hl:i5 (lZ ρ.length b8.mem 12) (X8 fg b8.loc)=af l) (hm:i5 (yt ρ.length b8.mem 12) (Rv ρ.length b8.mem)=af m):RF F ct.aS (fX G' τ s'.heap) ρ ⟨l,m⟩ s':=
 have sys:Sys (ρ++τ):=λ a ha=>AT O R' ha
 have UW {a:au}:a∈ρ->a∈ρ++τ:=dA τ
 have nG {a:au} (g:G' a=none) (k:a∉ρ++τ):fX G' τ s'.heap a=none:=none_of λ o e=>(fX.of e).elim (dh g) λ w=>k (cD _ w.1)
 {rm:=R'.rm.fz sys hm,ns:=R'.ns,
  loc:=λ i x v e e' nv=>(vF hl i v e').elim λ u w=>have nu:=VI w.2 nv; (R'.loc i x u e (G1 w.1 nu) nu).imp λ y z=>⟨s6 R'.rm sys 12 u w.2 z.1,z.2⟩,
  lG:=nG R'.lG R'.Bq,Bq:=λ h=>R'.Bq (UW h),cell:=λ x c e=>(R'.cell x c e).imp_right λ z=>⟨λ h=>z.1 (UW h),z.2.1,λ k=>nG (z.2.2 k) z.1⟩,
  p9:=R'.p9,keep:=R'.keep,live:=R'.live,ext:=R.ext,nw:=λ a ha=>R'.nw a (UW ha),Cy:=R'.Cy.trans fX.le,
  Bp:=λ a o e=>(fX.of e).elim (R'.Bp a o) λ w=>(R'.nw a (cD _ w.1)).imp (λ c=>bt w.1 (zO R'.rm.nd (R.ext.mem c))) id,gz:=R'.gz}
theorem FR.fz{G:BM}{ρ τ:ae au}{m:ae AO}{h:Heap}(R:RM G (ρ++τ) m h)(sys:Sys (ρ++τ)){f f':Fl}{fl:mA}(e:VH ρ.length m f=af f')(r:FR G (ρ++τ) f fl):FR (fX G τ h) ρ f' fl:=by
 rcases f with _|v
 ·exact am e▸r
 ·exact ob.u e λ w e1 e=>am e▸r.imp λ u=> .imp_right (s6 R sys 12 v e1)
noncomputable def NA(fg:ae aC)(b:SS P ct):SS P ct where
 bA:=b.bA
 run:=λ σ K=>b.run σ (Lq σ.mem.length fg K)
 ch:=b.ch
 ok:=λ c F G ρ σ s Kv O R h=>X.mono (b.ok c F G ρ σ s _ O R h) λ f s' z=>z.u λ G' ρ' fl b8 g x R' fr k=>k.u λ r w k=>x.elim λ τ e=>ob.u w λ f' e1 h=>ob.u h λ l e2 h=>ob.u h λ m e3 h=>by
  subst e
  rw[← R.rm.len] at e1 e2 e3
  exact⟨_,ρ,f',⟨l,m⟩,g.trans fX.le,Ext.refl _,R.fz O R' e2 e3,FR.fz R'.rm (λ a ha=>AT O R' ha) e1 fr,(am h▸k:Kv (f',(⟨l,m⟩:St)).1 (f',(⟨l,m⟩:St)).2)⟩
end
noncomputable abbrev Sg(prog:aK)(w:bw)(A:bn)(c:vT)(t:im Fin)(fs:ae Frame)(s:ar)(P:End->ar->Prop):Prop:=PySem.W.X.SegX (aE prog w) A c t fs s P
section
variable{prog:aK}{w:bw}{A:bn}{c:vT}{fs:ae Frame}{s:ar}{env:Env}{P:End->ar->Prop}
theorem qK{α:Type}{m:im α}{K:α->im Fin}{H:ak->im Fin}{gd:aC->aC}{lv:ae ak->ae ak}(h:aH (aE prog w) (A.over c fs) m (λ a s'=>Sg prog w A c (K a) fs s' P) dw s):Sg prog w A c (m.wrap K H gd lv) fs s P:=by
 rintro Γ p rfl Oh
 obtain⟨e,s',hr,hq⟩:=runs_wrap_of_wp (Φ:=λ e s'=>e.quiet=true/\P e s') K H gd lv m (h (Γ.over fs) p (Oh.over fs)) (λ a p' s' h'=>h' Γ p' rfl Oh) (λ aa aa aa z=>z.elim)
 exact⟨e,s',hr,hq⟩
theorem s_{α β:Type}{m:im α}{f:α->im β}{K:β->im Fin}{H:ak->im Fin}{gd:aC->aC}{lv:ae ak->ae ak}
  (h:aH (aE prog w) (A.over c fs) m (λ a s'=>Sg prog w A c ((f a).wrap K H gd lv) fs s' P) dw s):Sg prog w A c ((m>>=f).wrap K H gd lv) fs s P:=by
 rw[i2,j6]
 exact qK h
noncomputable abbrev Zp(env:Env)(K:mA->im Fin)(H:ak->im Fin)(gd:aC->aC)(lv:ae ak->ae ak):iT->im Fin:=λ r=>((match r with | .ok f=>(.pure f:im mA) | .error e=> .raise e).onRaise λ(x:ak)=>do
    if (← field x 1)==c_ then Bg "frame.own-activation:exception-without-traceback"
    setFlight x env.frame).wrap K H gd lv
theorem V4{t it:aB}{b:ae f5}{pos:c9}{K:mA->im Fin}{H:ak->im Fin}{gd:aC->aC}{lv:ae ak->ae ak}(hs:∀x,eh it env x=pure x)
  (h:aH (aE prog w) (A.over c fs) (eval it env) (λ x s₁=>aH (aE prog w) (A.over c fs) (iB x) (λ i bp=>∀p,Sg prog w A (.forLoop t i b [] env) (denote table (.forLoop t i b [] env)) (.ret (Zp env K H gd lv) none (gd false) (lv []) c p []::fs) bp P) dw s₁) dw s):
  Sg prog w A c ((exec (.For t it b [] pos) env).wrap K H gd lv) fs s P:=by
 rw[exec_For]
 refine s_ (h_ ?_)
 refine s_ (c7 h (λ x s₁ bH=>?_) λ aa aa z=>z)
 refine s_ ?_
 rw[hs x]
 refine aw ?_
 refine s_ (h_ ?_)
 refine s_ (bU (c7 bH (λ i bp cW=>?_) λ aa aa z=>z))
 exact PySem.W.X.s_call prog w A c fs P bp _ _ _ _ _ cW
noncomputable abbrev Uw(env:Env):ak->im Fin:=λ e=>(do qR e env; k9 e:im e6).wrap (λ aa=> .raise e) .raise id id
noncomputable abbrev Ux(c:vT):mA->im Fin:=λ f=>match f with
 | .next | .cont=> .pure (.again c)
 | .brk=> .pure (.done .next)
 | .ret v=> .pure (.done (.ret v))
theorem xn{t:aB}{it:ak}{b:ae f5}
  (h:aH (aE prog w) (A.over (.forLoop t it b [] env) fs) (gN it) (λ r s₁=>match r with
   |none=>Sg prog w A (.block [] env) (denote table (.block [] env)) fs s₁ P
   |some v=>aH (aE prog w) (A.over (.forLoop t it b [] env) fs) (dy t it v) (λ aa bp=>aH (aE prog w) (A.over (.forLoop t it b [] env) fs) (assign t env v) (λ aa fY=>
     Sg prog w A (.forLoop t it b [] env) ((execs b env).wrap (Ux (.forLoop t it b [] env)) (Uw env) id id) fs fY P) dw bp) dw s₁) dw s):
  Sg prog w A (.forLoop t it b [] env) (denote table (.forLoop t it b [] env)) fs s P:=by
 show Sg prog w A _ ((forTurn t it b [] env).onRaise (λ x=>do qR x env; k9 x)) fs s P
 unfold forTurn
 rw[JJ]
 refine s_ (h_ ?_)
 refine s_ (c7 (X.back (X.raises (X.any h))) (λ r s₁ bH=>?_) λ aa aa z=>z)
 cases r with
 |none=>exact rK prog w A _ fs P s₁ _ rfl bH
 |some v=>
  refine s_ (c7 bH (λ aa bp cW=>s_ (c7 cW (λ aa fY fK=>?_) λ aa aa z=>z)) λ aa aa z=>z)
  rw[i2,j6]
  rw[Sem.wrap_congr (execs b env) _ _ (K':=Ux (.forLoop t it b [] env)) (H':=Uw env)
    (λ f=>by cases f<;>rfl)
    (λ e=>by first|exact vW _ _|(show(do qR e env; k9 e:im e6).bind (λ aa=> .raise e)=_; rw[vW]))]
  exact fK
theorem AQ{st:f5}{rest:ae f5}{K:mA->im Fin}{H:ak->im Fin}{gd:aC->aC}{lv:ae ak->ae ak}
  (h:Sg prog w A c ((exec st env).wrap (λ f=>match f with | .next=>(execs rest env).wrap K H gd lv|f=>K f) H gd lv) fs s P):Sg prog w A c ((execs (st::rest) env).wrap K H gd lv) fs s P:=by
 rw[execs_cons_wrap]; exact h
theorem Nv{e:aB}{yp pos:c9}{K:mA->im Fin}{H:ak->im Fin}{gd:aC->aC}{lv:ae ak->ae ak}(hfs:splitAtGen fs=none)(hgd:gd false=false)(hfg:fs.any Frame.guarded=false)(Of:env.scope.isCoroutine=false)(hi:Bd env=false)
  (h:aH (aE prog w) (A.over c fs) (eval e env) (λ v s'=>∀p l k,k (.send .none)=K .next->P (.susp v false l k c p fs) s') dw s):Sg prog w A c ((exec (.Expr (.Yield (af e) yp) pos) env).wrap K H gd lv) fs s P:=by
 rw[exec_Expr env _ pos hi rfl]
 show Sg prog w A c (.at pos λ aa=>((eval e env>>=λ v=>(dp yp>>=λ aa=>yieldOut env v))>>=λ x=>dropValue (.Yield (af e) yp) pos x).wrap K H gd lv) fs s P
 have hy:∀v,yieldOut env v=yieldValue v:=λ v=>by simp only[yieldOut,Of,tj,if_false]
 simp only[hy]
 refine qK (m:=dp pos) (H:= .raise) (gd:=id) (lv:=id) (h_ ?_)
 rw[i2,i2,j6,j6]
 refine qK (c7 h (λ v s' h'=>?_) λ aa aa x=>x)
 refine qK (m:=dp yp) (H:= .raise) (gd:=id) (lv:=id) (h_ ?_)
 show Sg prog w A c (.yield v (gd false) _ _) fs s' P
 rw[hgd]
 exact PySem.W.X.s_yield prog w A c fs P s' v _ _ hfs hfg λ p=>h' p _ _ rfl
end
section
variable{prog:aK}{w:bw}{A:bn}{E:ak->ar->Prop}{s:ar}
def pX(prog:aK)(w:bw)(A:bn)(gs:d7)(s:ar)(P:End->ar->Prop):Prop:=match gs with
 | .fresh c=>Sg prog w A c (denote table c) [] s P
 | .suspended k _ c _ fs _=>Sg prog w A c (k (.send .none)) fs s P
 |_=>False
theorem PY{a:au}{g:Nat}{gs:d7}{Q:aq ak->ar->Prop}(hh:A.handled=none)(hl:s.heap.NoLimit)(uD:A.depth < tz)(hg:s.heap.IsGen a g)(JX:s.gens[g]?=af gs)
  (h:pX prog w A.in1 gs (s.setGen g .running) (λ e s₁=>match e with
   | .ret r=>r= .ok (.ret .none)/\∀h',(∀b o,s₁.heap.get? b=af o->h'.get? b=af o)->Q none {s₁.setGen g .finished with heap:=h'}
   | .susp v gd l k c p fs=>Q (af v) (s₁.setGen g (End.susp v gd l k c p fs).genState))):aH (aE prog w) A (gN (.ref a)) Q E s:=by
 unfold gN
 have stop:∀{s₁:ar} {k:e6->im Fin},(∀h',(∀b o,s₁.heap.get? b=af o->h'.get? b=af o)->Q none {s₁ with heap:=h'})->
   aH (aE prog w) A.in1 (Eh (.type "StopIteration") []>>=λ e=>raiseNew e>>=k) (λ f s'=>∃v,f= .done (.ret v)/\Q (af v) s') (λ e s'=>s'.TypeIs e "StopIteration"/\Q none s') s₁:=λ{s₁ k} hq=>by
  refine aj ?_
  simp only[Eh,newTuple]
  refine aj (cP ?_ (by size_fits))
  refine aj (m:=jJ _ _) (bu (a:=c_) (by first|rfl|(simp only[jJ]; rfl)) ?_)
  refine cP ?_ (by size_fits)
  refine aj (wpAny_raiseNew_none hh ⟨⟨_,aN _ rfl,rfl⟩,hq _ λ b o hb=>aA _ (aA _ hb)⟩)
 have wake:aH (aE prog w) A.in1 (Builtin.Generator.genWake (.ref a) (.send .none)) (λ f s'=>∃v,f= .done (.ret v)/\Q (af v) s') (λ e s'=>s'.TypeIs e "StopIteration"/\Q none s') s:=by
  unfold Builtin.Generator.genWake
  refine aj (bU (wpAny_genNumber hg (aj (wpAny_genState JX ?_))))
  cases gs with
  |running=>exact h.elim
  |finished=>exact h.elim
  |fresh c=>
   refine aj (wpAny_roomToWake hl uD ?_)
   show aH _ _ (.resume g (.send .none) [] _) _ _ s
   refine By _ prog w JX (.inl ⟨rfl,rfl,rfl,rfl⟩) (λ Γ=>Γ.In A.in1) (λ aa q=>q) (el h λ e s₁ z=>?_)
   intro Γ p Oh
   cases e with
   |ret r=>obtain⟨rfl,z⟩:=z; exact stop (s₁:=s₁.setGen g .finished) z Γ p Oh
   |susp v gd l k c p' fs=>exact⟨v,rfl,z⟩
  |suspended acK acX c₀ ade aeq cl=>
   refine aj (wpAny_roomToWake hl uD ?_)
   show aH _ _ (.resume g (.send .none) [] _) _ _ s
   refine By _ prog w JX (.inr ⟨acK,acX,ade,cl,rfl,rfl⟩) (λ Γ=>Γ.In A.in1) (λ aa q=>q) (el h λ e s₁ z=>?_)
   intro Γ p Oh
   cases e with
   |ret r=>obtain⟨rfl,z⟩:=z; exact stop (s₁:=s₁.setGen g .finished) z Γ p Oh
   |susp v gd l k c p' fs=>exact⟨v,rfl,z⟩
 refine aj (kY (de (name:=bT "__next__") hg.typeIs slot_gen_next
  (cA slot_gen_next hg.typeIs entry_gen_next (c7 wake (λ f s' h=>?_) λ e s' h=>?_) (args_gen_next _))))
 ·obtain⟨v,rfl,h⟩:=h
  exact⟨v,rfl,aw h⟩
 ·exact aj (eQ (T:="StopIteration") (b:=true) h.1 Eg (aw h.2))
end
structure J4(ct:Ct)(E:Env):Prop where
 kind:E.scope.kind= .function
 names:E.scope.names=ct.names
 glob:E.globals=dk
 blt:E.builtins=li
 cells:E.cells=[]
 WT:∀x,ct.names.lookup x≠af .cell
 vH:ct.aS.Nodup
 ro:ct.ro=false
 tb:ct.tb=false
 cq:ct.cq=false
noncomputable def WL(A:bn)(E:Env)(G:BM)(s:ar):Fd:={A:=A,env:=E,h₀:=s.heap,gL:=[],G₀:=G,Z:=s,ro:=false}
abbrev KG(G:BM)(h:Heap):Prop:=∀a o,G a=af o->h.get? a=af o
section
variable{P:cC}{ct:Ct}{A:bn}{E:Env}{G:BM}{s:ar}
theorem J4.noC{Q:Prop}(g:J4 ct E){x:bI}{c:au}(e:E.cells.lookup x=af c):Q:=cm ((ah (·.lookup x) g.cells).symm.trans e)
theorem J4.fok(g:J4 ct E)(room:mG A P.d)(ja:P.Φ G):gO P ct (WL A E G s):=
 ⟨g.kind,g.names,g.glob,g.blt,room,ja,g.vH,g.ro.symm,λ x h=>bt h (g.WT x),λ e=>ay (g.tb.symm.trans e),λ e=>ay (g.cq.symm.trans e)⟩
abbrev NsL(E:Env)(aS:ae bI)(G:BM)(loc:ae AV)(m:bI->aq ak):Prop:=∀(i:Nat) (x:bI) (v:AV),aS[i]?=af x->loc[i]?=af v->v≠ .undef->∃u,VR G [] v u/\E.kindOf x=af .local/\m x=af u
def Oc(E:Env)(aS:ae bI)(G:BM)(loc:ae AV)(h:Heap):Prop:=∃m,h.Ns E.locals m/\NsL E aS G loc m
theorem zJ{h h':Heap}{a:au}{m:bI->aq ak}(k:∀o,h.get? a=af o->h'.get? a=af o):h.Ns a m->h'.Ns a m:= .imp λ o=> .imp λ aa=> .imp λ aa=> .imp_left (k o)
theorem Oc.keep{aS:ae bI}{loc:ae AV}{h h':Heap}(k:∀o,h.get? E.locals=af o->h'.get? E.locals=af o):Oc E aS G loc h->Oc E aS G loc h':= .imp λ aa=> .imp_left (zJ k)
theorem Oc.al{aS:ae bI}{loc:ae AV}{h:Heap}(n:Oc E aS G loc h):∃o,h.get? E.locals=af o:=n.elim λ aa n=>n.1.imp λ aa h=>h.elim λ aa h=>h.elim λ aa h=>h.1
theorem Ow{h:Heap}{a:au}{m m':bI->aq ak}(x:h.Ns a m)(y:h.Ns a m'):m=m':=by
 obtain⟨o,es,ep,ho,hd,hk,hf⟩:=x
 obtain⟨o',Bn,JW,E1,LG,hk',hf'⟩:=y
 cases ho.symm.trans E1
 cases hd.symm.trans LG
 exact funext λ x=>(hf x).symm.trans (hf' x)
theorem J4.rf(g:J4 ct E){loc:ae AV}(kg:KG G s.heap)(ns:Oc E ct.aS G loc s.heap)(lG:G E.locals=none):RF (WL A E G s) ct.aS G [] ⟨loc,[]⟩ s:=
 ⟨⟨kg,rfl,λ i a ao h=>cm h,gC,λ a h=>(nomatch h)⟩,ns.imp λ aa=>eH,λ i x v e e' n=>ns.elim λ m z=>(z.2 i x v e e' n).imp λ u q=>⟨q.1, .inl ⟨q.2.1,m,z.1,q.2.2⟩⟩,lG,(λ h=>nomatch h),λ x c e=>g.noC e,λ x y c e=>g.noC e,
  λ a o aa aa e=>e,λ a o e=>⟨o,e⟩,Ext.refl _,(λ a h=>nomatch h),dG.refl _,λ a o e=> .inl e,GZ.of ⟨rfl,rfl,rfl⟩⟩
theorem J4.back(g:J4 ct E){G':BM}{b8:St}{s':ar}(R:RF (WL A E G s) ct.aS G' [] b8 s'):Oc E ct.aS G' b8.loc s'.heap:=
 R.ns.imp λ m hm=>⟨hm,λ i x v e e' n=>(R.loc i x v e e' n).imp λ u q=>⟨q.1,q.2.elim (λ a=>⟨a.1,a.2.elim λ m' z=>(congrFun (Ow hm z.1) x).trans z.2⟩) λ a=>a.2.elim λ c z=>g.noC z.1⟩⟩
theorem J4.free(g:J4 ct E){d:au}(h:d≠E.locals):(WL A E G s).free d:=⟨h,λ aa y aa q=>g.noC q⟩
end
theorem X.Sc{α:Type}{J:aC}{M:iy}{A:bn}{t:im α}{Q:α->ar->Prop}{s:ar}(hj:J=false)(h:cL J M A t Q s):aH M A t Q (λ aa aa=>False) s:=X.back (hj▸h)
section
variable{P:cC}{ct:Ct}{F:Fd}{G:BM}{s:ar}{l l':ae AV}
theorem SE.Po(e:SE P ct)(hj:P.j=false)(c:e.ch=true)(O:gO P ct F)(R:RF F ct.aS G [] ⟨l,[]⟩ s){V:AV}(run:∀K:AV->St->Prop,K V ⟨l',[]⟩->e.run ⟨l,[]⟩ K){Q:ak->ar->Prop}
  (k:∀G' v s',dG G G'->RF F ct.aS G' [] ⟨l',[]⟩ s'->VR G' [] V v->Q v s'):aH (aE P.prog P.w) F.A (eval e.bA F.env) Q dw s:=
 c7 (X.Sc hj (e.ok c F G [] _ s (λ v σ=>v=V/\σ=⟨l',[]⟩) O R (run _ ⟨rfl,rfl⟩))) (λ v s' z=>z.u λ G' ρ' av b8 le aa R va h=>have R:RF F ct.aS G' ρ' ⟨l',[]⟩ s':=h.2▸R
  have er:ρ'=[]:=cZ.mp R.rm.len; k G' v s' le (er▸R) (er▸h.1▸va)) λ aa aa z=>z
theorem SX.Po(e:SX P ct)(hj:P.j=false)(c:e.ch=true)(O:gO P ct F)(R:RF F ct.aS G [] ⟨l,[]⟩ s)(run:∀K:Fl->St->Prop,K .d8 ⟨l',[]⟩->e.run ⟨l,[]⟩ K){Q:mA->ar->Prop}
  (k:∀G' s',dG G G'->RF F ct.aS G' [] ⟨l',[]⟩ s'->Q .next s'):aH (aE P.prog P.w) F.A (exec e.bA F.env) Q dw s:=
 c7 (X.Sc hj (e.ok c F G [] _ s (λ v σ=>v= .d8/\σ=⟨l',[]⟩) O R (run _ ⟨rfl,rfl⟩))) (λ f s' z=>z.u λ G' ρ' av b8 le aa R fr h=>have R:RF F ct.aS G' ρ' ⟨l',[]⟩ s':=h.2▸R
  have er:ρ'=[]:=cZ.mp R.rm.len; (show f= .next from(h.1▸fr:FR G' ρ' .d8 f)).symm▸k G' s' le (er▸R)) λ aa aa z=>z
end
structure GQ(P:cC)(ct:Ct) where
 tp:c9
 yp:c9
 xp:c9
 fp:c9
 s0:SX P ct
 e1:SE P ct
 e:SE P ct
 a:AV
 b:AV
 c:AV
 cnt:Nat
 V:Nat->AV
structure GP(P:cC)(ct:Ct) extends GQ P ct where
 A:bn
 E:Env
noncomputable abbrev fnK:mA->im Fin:=λ f=> .pure (.done (.ret (match f with | .ret v=>v|_=> .none)))
noncomputable abbrev fnH(env:Env):ak->im Fin:=λ e=>(leaving env e).wrap (λ aa=> .raise e) .raise id id
abbrev Ma(env:Env)(body:ae f5)(p:c9):ae Frame:=[.ret (Zp env (λ f=>match f with | .next=>(execs [] env).wrap fnK (fnH env) id id|f=>fnK f) (fnH env) id id) none false [] (.func body env) p []]
noncomputable def Sh(s0:f5)(x:bI)(tp:c9)(e1 e:aB)(yp xp fp:c9):ae f5:=[s0, .For (.Name x tp) e1 [.Expr (.Yield (af e) yp) xp] [] fp]
namespace GQ
abbrev x{P:cC}{ct:Ct}(_:GQ P ct):bI:=Hn ct 3
variable{P:cC}{ct:Ct}(g:GQ P ct)
noncomputable def yl:ae f5:=[.Expr (.Yield (af g.e.bA) g.yp) g.xp]
def body:ae f5:=Sh g.s0.bA g.x g.tp g.e1.bA g.e.bA g.yp g.xp g.fp
noncomputable def lo(v:AV):ae AV:=[g.a,g.b,g.c,v]
structure Ok:Prop where
 hj:P.j=false
 c0:g.s0.ch=true
 c1:g.e1.ch=true
 ce:g.e.ch=true
 ct3:pd ct 3 g.x=true
 hs:∀env y,eh g.e1.bA env y=pure y
 Og:Builtin.Range.small 0 g.cnt 1=true
 ZF:∀K:Fl->St->Prop,K .d8 ⟨g.lo .undef,[]⟩->g.s0.run ⟨[g.a,g.b, .undef, .undef],[]⟩ K
 ZG:∀K:AV->St->Prop,K (.j_ 0 g.cnt 1) ⟨g.lo .undef,[]⟩->g.e1.run ⟨g.lo .undef,[]⟩ K
 run:∀i:Nat,i < g.cnt->∀K:AV->St->Prop,K (g.V i) ⟨g.lo (.int i),[]⟩->g.e.run ⟨g.lo (.int i),[]⟩ K
end GQ
namespace GP
variable{P:cC}{ct:Ct}(g:GP P ct)
def lc(I:au):vT:= .forLoop (.Name g.x g.tp) (.ref I) g.yl [] g.E
def fc:vT:= .func g.body g.E
def lf(p:c9):ae Frame:=Ma g.E g.body p
structure Ok:Prop extends GQ.Ok g.toGQ where
 fr:J4 ct g.E
 S4:mG (g.A.over g.fc []) P.d
 room:∀I p,mG (g.A.over (g.lc I) (g.lf p)) P.d
 Of:g.E.scope.isCoroutine=false
structure Rest(G:BM)(I:au)(i:Nat)(pv:AV)(h:Heap):Prop where
 ns:Oc g.E ct.aS G (g.lo pv) h
 lG:G g.E.locals=none
 iG:G I=none
 it:Ba h I i ((g.cnt:Int) - i) 1
inductive Turn(V:AV)(G:BM)(s:ar)(I:au)(i:Nat)(q:c9)(en:End)(s':ar):Prop
 |mk (v:ak) (l:ae ak) (k:Resume->im Fin) (p:c9) (G':BM) (e0:en= .susp v false l k (g.lc I) p (g.lf q)) (hk:k (.send .none)= .pure (.again (g.lc I))) (le:dG G G') (kg:KG G' s'.heap) (va:VR G' [] V v)
  (r:g.Rest G' I (i+1) (.int i) s'.heap) (kp:∀b o,b≠g.E.locals->b≠I->s.heap.get? b=af o->s'.heap.get? b=af o) (nw:∀a o,G' a=af o->G a=af o\/s.heap.get? a=none) (gz:GZ s s')
end GP
section
variable{P:cC}{ct:Ct}{g:GP P ct}{G:BM}{s s₁:ar}{I:au}{i:Nat}{q:c9}{pv:AV}
theorem IT(k:g.Ok)(ja:P.Φ G)(hi:i < g.cnt)(kg:KG G s₁.heap)(r:g.Rest G I (i+1) pv s₁.heap)(iL:I≠g.E.locals)(kp:∀b o,b≠I->s.heap.get? b=af o->s₁.heap.get? b=af o)(zz:GZ s s₁){t:kx}:
  aH (aE P.prog P.w) (g.A.over (g.lc I) (g.lf q)) (assign (.Name g.x g.tp) g.E (.int i t)) (λ aa fY=>Sg P.prog P.w g.A (g.lc I) ((execs g.yl g.E).wrap (Ux (g.lc I)) (Uw g.E) id id) (g.lf q) fY (g.Turn (g.V i) G s I i q)) dw s₁:=by
 have O:=k.fr.fok (s:=s₁) (k.room I q) ja
 refine c7 ((xy (P:=P) 3 g.tp).ok k.ct3 _ G [] _ _ (.int i) _ (λ σ=>σ=⟨g.lo (.int i),[]⟩) O (k.fr.rf kg r.ns r.lG) VR.mH rfl) (λ aa bp z=>z.elim λ σ z=>?_) λ aa aa z=>z
 cases z.2
 refine AQ (Nv rfl rfl rfl k.Of (by unfold Bd; rw[k.fr.kind]; rfl) ?_)
 exact g.e.Po k.hj k.ce O z.1 (k.run i hi) λ G' v fY le R va p l k' hk=>have keep:∀d o,d≠g.E.locals->s₁.heap.get? d=af o->fY.heap.get? d=af o:=λ d o hd=>R.keep d o (λ z=>nomatch z) (k.fr.free hd)
  ⟨v,l,k',p,G',rfl,hk,le,R.rm.kg,va,⟨k.fr.back R,R.lG,none_of λ o q=>(R.Bp I o q).elim (dh r.iG) λ q=>dh q r.it,keep I _ iL r.it⟩,λ d o n1 n2 q=>keep d o n1 (kp d o n2 q),
  λ d o q=>(R.Bp d o q).imp_right λ q=>none_of λ o' e=>(d5 (d=I)).elim (λ w=>dh q (w▸r.it)) λ w=>dh q (kp d o' w e),zz.trans R.gz⟩
theorem Cr(k:g.Ok)(ja:P.Φ G)(hi:i < g.cnt)(kg:KG G s.heap)(r:g.Rest G I i pv s.heap)(iL:I≠g.E.locals):Sg P.prog P.w g.A (g.lc I) (denote table (g.lc I)) (g.lf q) s (g.Turn (g.V i) G s I i q):=
 xn (JN r.it (Int.sub_pos_of_lt (mY.mpr hi)) λ h' it sb=>aw<|
  have kp:∀b o,b≠I->s.heap.get? b=af o->h'.get? b=af o:=sb.extBut
  IT (s₁:={s with heap:=h',toks:=s.toks+1}) k ja hi (λ a o q=>kp a o (λ z=>dh r.iG (z▸q)) (kg a o q)) ⟨r.ns.keep (λ o=>kp _ o iL.symm),r.lG,r.iG,(show((i+1:Nat):Int)=i+1 from rfl)▸Int.sub_sub ..▸it⟩ iL kp (GZ.of ⟨rfl,rfl,rfl⟩))
end
section
variable{prog:aK}{w:bw}{A:bn}{fs:ae Frame}{s:ar}{env:Env}{Pe:End->ar->Prop}
theorem Re{body:ae f5}(h:Sg prog w A (.func body env) ((execs body env).wrap fnK (fnH env) id id) fs s Pe):Sg prog w A (.func body env) (denote table (.func body env)) fs s Pe:=by
 show Sg prog w A _ (.point [] λ aa=>((execs body env).onRaise (leaving env))>>=_) fs s Pe
 refine qK (m:=point) (H:= .raise) (gd:=id) (lv:=λ aa=>[]) (Bh ?_)
 rw[JJ,i2,j6]
 rw[Sem.wrap_congr (execs body env) _ _ (K':=fnK) (H':=fnH env) (λ f=>by cases f<;>rfl) (λ e=>by rw[vW,j6]; rfl)]
 exact h
theorem PZ{t:aB}{I:au}{b body:ae f5}{p:c9}{i left:Int}(hh:(A.over (.forLoop t (.ref I) b [] env) (Ma env body p)).handled=none)(it:Ba s.heap I i left 1)(hl:left<=0):
  Sg prog w A (.forLoop t (.ref I) b [] env) (denote table (.forLoop t (.ref I) b [] env)) (Ma env body p) s (λ en s'=>en= .ret (.ok (.ret .none))/\(∀d o,d≠I->s.heap.get? d=af o->s'.heap.get? d=af o)/\GZ s s'):=
 xn (wpAny_pyNext_range_end hh it hl λ h' eb=>PySem.W.X.s_pop prog w A _ _ _ _ (.ok .next) _ rfl _ _ _ _ _ _ _ (PySem.W.X.s_end prog w A _ _ _ (.ok (.ret .none)) _ rfl ⟨rfl,λ d o n q=>eb d o n q,GZ.of ⟨rfl,rfl,rfl⟩⟩))
end
namespace GP
variable{P:cC}{ct:Ct}(g:GP P ct)
inductive RU(G:BM)(s:ar)(en:End)(s':ar):Prop
 |mk (I:au) (q:c9) (v:ak) (l:ae ak) (k:Resume->im Fin) (p:c9) (G':BM) (e0:en= .susp v false l k (g.lc I) p (g.lf q)) (hk:k (.send .none)= .pure (.again (g.lc I))) (le:dG G G') (kg:KG G' s'.heap) (va:VR G' [] (g.V 0) v)
  (r:g.Rest G' I 1 (.int (0:Nat)) s'.heap) (iL:I≠g.E.locals) (dead:s.heap.get? I=none) (kp:∀b o,b≠g.E.locals->s.heap.get? b=af o->s'.heap.get? b=af o) (nw:∀a o,G' a=af o->G a=af o\/s.heap.get? a=none) (gz:GZ s s')
end GP
section
variable{P:cC}{ct:Ct}{g:GP P ct}{G jr:BM}{s bp:ar}{q:c9}
theorem Fx(n:Nat):Builtin.Range.rangeSize 0 (n:Int) 1=(n:Int):=by unfold Builtin.Range.rangeSize; simp; omega
noncomputable abbrev rIt(n:Nat):Obj:={cls:=cS "range_iterator",data:=ii #[nJ 0,nJ (Builtin.Range.rangeSize 0 (n:Int) 1),nJ 1]}
theorem EW(k:g.Ok)(ja:P.Φ G)(hc:0 < g.cnt)(R:RF (WL (g.A.over g.fc []) g.E G s) ct.aS jr [] ⟨g.lo .undef,[]⟩ bp):Sg P.prog P.w g.A (g.lc bp.heap.objs.size) (denote table (g.lc bp.heap.objs.size)) (g.lf q) {bp with heap:=bp.heap.push (rIt g.cnt)} (g.RU G s):=by
 have dead:bp.heap.get? bp.heap.objs.size=none:=df (cF _)
 have push:∀d o,bp.heap.get? d=af o->(bp.heap.push (rIt g.cnt)).get? d=af o:=λ d o q=>aA _ q
 have keep:∀d o,d≠g.E.locals->s.heap.get? d=af o->bp.heap.get? d=af o:=λ d o hd q=>R.keep d o (λ z=>nomatch z) (k.fr.free hd) q
 have ns:=k.fr.back R
 have r:g.Rest jr bp.heap.objs.size 0 .undef (bp.heap.push (rIt g.cnt)):=⟨ns.keep (push _),R.lG,R.rm.yz dead,(aN _ rfl).trans (ah (λ n=>af ({cls:=cS "range_iterator",data:=ii #[nJ 0,nJ n,nJ 1]}:Obj)) ((Fx g.cnt).trans (Int.sub_zero _).symm))⟩
 exact el (Cr (q:=q) k (P.mono _ _ R.Cy ja) hc (λ d o q=>push d o (R.rm.kg d o q)) r λ z=>ns.al.elim λ aa e=>dh dead (z▸e)) λ en s' z=>by
  rcases z with⟨v,l,k',p,G',e0,hk,le,kg,va,r,kp,nw,gz⟩
  exact⟨_,q,v,l,k',p,G',e0,hk,R.Cy.trans le,kg,va,r,λ z=>ns.al.elim λ aa e=>dh dead (z▸e),R.dead dead,λ d o n q=>kp d o n (λ w=>dh (R.dead dead) (w▸q)) (push d o (keep d o n q)),
   λ d o q=>(nw d o q).elim (R.Bp d o) λ q=> .inr (R.dead (none_of λ o e=>dh q (push d o e))),R.gz.trans ((GZ.of ⟨rfl,rfl,rfl⟩).trans gz)⟩
theorem IR(k:g.Ok)(ja:P.Φ G)(hc:0 < g.cnt)(kg:KG G s.heap)(ns:Oc g.E ct.aS G [g.a,g.b, .undef, .undef] s.heap)(lG:G g.E.locals=none):Sg P.prog P.w g.A g.fc (denote table g.fc) [] s (g.RU G s):=by
 have O:gO P ct (WL (g.A.over g.fc []) g.E G s):=k.fr.fok k.S4 ja
 exact Re (AQ (qK (g.s0.Po k.hj k.c0 O (k.fr.rf kg ns lG) k.ZF λ dW s₁ ae1 dS=>AQ (V4 (k.hs _) (g.e1.Po k.hj k.c1 O dS k.ZG λ jr v bp ae2 gP va=>
  aD va λ r h=>h.elim λ aa h=>h.elim λ aa h=>h.elim λ aa h=>h.1▸wpAny_pyIter_range (gP.rm.kg _ _ h.2) k.Og λ p=>EW k ja hc gP)))))
end
section
variable{F:Fd}{ct:Ct}{G G':BM}{ρ:ae au}{σ:St}{s s':ar}
theorem RF.ND(R:RF F ct.aS G ρ σ s){Ex:au->Prop}(g:dG G G')(M:RM G' ρ σ.mem s'.heap)(gn:∀a o,G' a=af o->G a=af o\/s.heap.get? a=none)(kp:∀a o,¬Ex a->s.heap.get? a=af o->s'.heap.get? a=af o)
  (ex:∀a,Ex a->a≠F.env.locals/\(∀x,F.env.cells.lookup x≠af a)/\F.h₀.get? a=none) (z:GZ F.Z s'):RF F ct.aS G' ρ σ s':=
 have kL:∀o,s.heap.get? F.env.locals=af o->s'.heap.get? F.env.locals=af o:=λ o=>kp _ o λ q=>(ex _ q).1 rfl
 have kc:∀y c o,F.env.cells.lookup y=af c->s.heap.get? c=af o->s'.heap.get? c=af o:=λ y c o e=>kp c o λ w=>(ex _ w).2.1 y e
 have Cz:∀a,G a=none->(∃o,s.heap.get? a=af o)->G' a=none:=λ a n y=>none_of λ o q=>(gn _ _ q).elim (dh n) λ q=>y.elim λ aa=>dh q
 {rm:=M,ns:=R.ns.imp λ aa=>zJ kL,loc:=λ i x' v e e' n=>(R.loc i x' v e e' n).imp λ aa=> .imp (VR.up g (Ext.refl _) v) (At.keeps · kL kc),lG:=Cz _ R.lG R.lo,Bq:=R.Bq
  cell:=λ x' c e=>have h:=R.cell x' c e; ⟨h.1,h.2.1,h.2.2.1.imp λ aa=> .imp λ o=> .imp_left (kc x' c o e),λ k=>Cz c (h.2.2.2 k) (R.co e)⟩,p9:=R.p9
  keep:=λ a o n f e=>kp a o (λ w=>dh (ex a w).2.2 e) (R.keep a o n f e),live:=λ a o e=>(R.live a o e).imp λ o'=>kp a o' λ w=>dh (ex a w).2.2 e,ext:=R.ext,nw:=R.nw,Cy:=R.Cy.trans g
  Bp:=λ a o e=>(gn a o e).elim (R.Bp a o) λ q=> .inr (R.dead q),gz:=z}
noncomputable def BM.or(G G':BM):BM:=λ a=>match G a with
 |some o=>af o
 |none=>G' a
theorem BM.Vw(G G':BM):dG G (G.or G'):=λ a o e=>by unfold BM.or; rw[e]
theorem BM.or_none{a:au}(e:G a=none):G.or G' a=G' a:=by unfold BM.or; rw[e]
theorem BM.MM{a:au}{o:Obj}(h:(G.or G') a=af o):G a=af o\/(G a=none/\G' a=af o):=by
 rcases e:G a with _|o'
 ·exact .inr ⟨rfl,(BM.or_none e).symm.trans h⟩
 ·exact .inl ((BM.Vw G G' a o' e).symm.trans h)
theorem BM.ac8{h:Heap}(k:KG G h)(k':KG G' h):dG G' (G.or G'):=λ a o e=>by
 rcases q:G a with _|o'
 ·exact(BM.or_none q).trans e
 ·exact(BM.Vw G G' a o' q).trans ((k a o' q).symm.trans (k' a o e))
structure abi(F:Fd)(ct:Ct)(G G':BM)(ρ:ae au)(σ:St)(s s':ar):Prop where
 R:RF F ct.aS (G.or G') ρ σ s'
 l:dG G (G.or G')
 r:dG G' (G.or G')
 NB:∀a o,s.heap.get? a=af o->G a=none->(G.or G') a=none
theorem RF.gen(R:RF F ct.aS G ρ σ s){Gg:BM}{Ex:au->Prop}(le:dG Gg G)(kg':KG G' s'.heap)(nw:∀a o,G' a=af o->Gg a=af o\/s.heap.get? a=none)(kp:∀a o,¬Ex a->s.heap.get? a=af o->s'.heap.get? a=af o)
  (ex:∀a,Ex a->Loose F G ρ s a) (z:GZ F.Z s'):abi F ct G G' ρ σ s s':=
 have kg:KG G s'.heap:=λ a o e=>kp a o (λ w=>dh (ex a w).G e) (R.rm.kg a o e)
 have l:=BM.Vw G G'
 have NB:∀a o,s.heap.get? a=af o->G a=none->(G.or G') a=none:=λ a o e n=>none_of λ o' q=>(BM.MM q).elim (dh n) λ q=>(nw a o' q.2).elim (λ q=>dh n (le a o' q)) λ q=>dh q e
 ⟨R.ND (Ex:=Ex) l ⟨λ a o e=>(BM.MM e).elim (kg a o) λ q=>kg' a o q.2,R.rm.len,λ i a ao hi e=>(R.rm.obj i a ao hi e).imp λ o=> .imp (kp a o λ w=>(ex a w).ρ (iq hi)) (OR.up l (Ext.refl _)),R.rm.nd,λ a ha=>(R.rm.some_of ha).elim λ o ho=>NB a o ho (R.rm.fr a ha)⟩
  (λ a o e=>(BM.MM e).elim .inl λ q=>(nw a o q.2).imp_left (le a o)) kp (λ a w=>have e:=ex a w; ⟨e.L,e.c,e.h⟩) z,l,BM.ac8 kg kg',NB⟩
end
inductive W6(V:AV)(G:BM)(Ex:au->Prop)(R:d7->BM->(au->Prop)->Heap->Prop)(s:ar)(e:End)(s':ar):Prop
 |mk (v:ak) (l:ae ak) (k:Resume->im Fin) (c:vT) (p:c9) (fs:ae Frame) (G':BM) (Os:au->Prop) (e0:e= .susp v false l k c p fs) (bare:e.genState.bare=true) (le:dG G G') (kg:KG G' s'.heap) (va:VR G' [] V v) (nw:∀a o,G' a=af o->G a=af o\/s.heap.get? a=none)
  (kp:∀b o,¬Ex b->s.heap.get? b=af o->s'.heap.get? b=af o) (ex':∀b,Os b->(Ex b\/s.heap.get? b=none)/\G' b=none/\∃o,s'.heap.get? b=af o) (gz:GZ s s') (r:R e.genState G' Os s'.heap)
structure W3(Ex:au->Prop)(s:ar)(e:End)(s':ar):Prop where
 e:e= .ret (.ok (.ret .none))
 kp:∀b o,¬Ex b->s.heap.get? b=af o->s'.heap.get? b=af o
 gz:GZ s s'
noncomputable def ra(prog:aK)(w:bw)(A:bn):ae AV->d7->BM->(au->Prop)->Heap->Prop
 |[],gs,G,Ex,h₀=>∀s:ar,KG G s.heap->(∀b,Ex b->s.heap.get? b=h₀.get? b)->pX prog w A gs s (W3 Ex s)
 |V::r,gs,G,Ex,h₀=>∀s:ar,KG G s.heap->(∀b,Ex b->s.heap.get? b=h₀.get? b)->pX prog w A gs s (W6 V G Ex (ra prog w A r) s)
section
variable{P:cC}{ct:Ct}{g:GP P ct}
noncomputable def Uc(V:Nat->AV)(i:Nat):Nat->ae AV
 |0=>[]
 |n+1=>V i::Uc V (i+1) n
abbrev GP.ex(g:GP P ct)(I:au):au->Prop:=λ d=>d=g.E.locals\/d=I
theorem GP.Rest.al{G:BM}{I:au}{i:Nat}{pv:AV}{h:Heap}(r:g.Rest G I i pv h){d:au}(hd:g.ex I d):G d=none/\∃o,h.get? d=af o:=hd.elim (λ e=>e▸⟨r.lG,r.ns.al⟩) λ e=>e▸⟨r.iG,_,r.it⟩
theorem GP.Rest.same{G:BM}{I:au}{i:Nat}{pv:AV}{h h':Heap}(r:g.Rest G I i pv h)(e:∀b,g.ex I b->h'.get? b=h.get? b):g.Rest G I i pv h':=⟨r.ns.keep λ o q=>(e _ (.inl rfl)).trans q,r.lG,r.iG,(e I (.inr rfl)).trans r.it⟩
theorem Cq(k:g.Ok){I:au}{q:c9}(iL:I≠g.E.locals):∀(n i:Nat) (h₀:Heap) (G:BM) (pv:AV) (l:ae ak) (k':Resume->im Fin) (p:c9) (cl:aC),i+n=g.cnt->P.Φ G->k' (.send .none)= .pure (.again (g.lc I))->g.Rest G I i pv h₀->
   ra P.prog P.w g.A (Uc g.V i n) (.suspended k' l (g.lc I) p (g.lf q) cl) G (g.ex I) h₀
 |0,i,h₀,G,pv,l,k',p,cl=>λ hn ja hk r s kg hE=>by
  show Sg P.prog P.w g.A _ (k' (.send .none)) _ s _
  rw[hk]
  exact rK P.prog P.w g.A _ _ _ s _ rfl (el (PZ (k.room I q).2.2 (r.same hE).it (Int.sub_nonpos_of_le (pO.mpr (aV hn.symm)))) λ en s' z=>⟨z.1,λ d o hd w=>z.2.1 d o (λ z=>hd (.inr z)) w,z.2.2⟩)
 |n+1,i,h₀,G,pv,l,k',p,cl=>λ hn ja hk r s kg hE=>by
  show Sg P.prog P.w g.A _ (k' (.send .none)) _ s _
  rw[hk]
  refine rK P.prog P.w g.A _ _ _ s _ rfl (el (Cr k ja (hn▸DY (uV n)) kg (r.same hE) iL) λ en s' z=>?_)
  rcases z with⟨v,l',k'',p',G',rfl,e2,le,kg,va,r,kp,nw,gz⟩
  exact⟨v,l',k'',_,p',_,G',g.ex I,rfl,rfl,le,kg,va,nw,λ d o hd w=>kp d o (λ z=>hd (.inl z)) (λ z=>hd (.inr z)) w,λ d hd=>⟨.inl hd,r.al hd⟩,gz,Cq k iL n (i+1) s'.heap G' (.int i) l' k'' p' _ ((oJ i n).trans hn) (P.mono _ _ le ja) e2 r⟩
theorem IS(k:g.Ok){n:Nat}(hn:g.cnt=n+1){G:BM}(ja:P.Φ G){h₀:Heap}(ns:Oc g.E ct.aS G [g.a,g.b, .undef, .undef] h₀)(lG:G g.E.locals=none):ra P.prog P.w g.A (Uc g.V 0 (n+1)) (.fresh g.fc) G (λ d=>d=g.E.locals) h₀:=λ s kg hE=>by
 refine el (IR k ja (hn▸uV n) kg (ns.keep λ o q=>(hE _ rfl).trans q) lG) λ en s' z=>?_
 rcases z with⟨I,q,v,l,k',p,G',rfl,e2,le,kg,va,r,iL,dead,kp,nw,gz⟩
 exact⟨v,l,k',_,p,_,G',g.ex I,rfl,rfl,le,kg,va,nw,kp,λ d hd=>⟨hd.imp_right λ(e:d=I)=>e▸dead,r.al hd⟩,gz,Cq k iL n 1 s'.heap G' (.int (0:Nat)) l k' p _ ((Nat.add_comm 1 n).trans hn.symm) (P.mono _ _ le ja) e2 r⟩
end
theorem ra.abH{prog:aK}{w:bw}{A:bn}{rest:ae AV}{gs:d7}{G:BM}{Ex:au->Prop}{h₀ bH:Heap}(e:∀b,Ex b->bH.get? b=h₀.get? b)(H:ra prog w A rest gs G Ex h₀):ra prog w A rest gs G Ex bH:=by
 rcases rest with _|⟨V,r⟩
 ·exact λ s kg hE=>H s kg λ b hb=>(hE b hb).trans (e b hb)
 ·exact λ s kg hE=>H s kg λ b hb=>(hE b hb).trans (e b hb)
theorem LB{Z s s₁:ar}{g:Nat}{gs x y:d7}(z:GZ Z s)(hz:Z.gens[g]?=none)(hg:s.gens[g]?=af gs)(z1:GZ (s.setGen g x) s₁)(bx:x.bare=true)(bY:y.bare=true):GZ Z (s₁.setGen g y)/\(s₁.setGen g y).gens[g]?=af y:=
 have h1:(s.setGen g x).gens[g]?=af x:=setGen_self hg
 have h3:(s₁.setGen g y).gens[g]?=af y:=setGen_self (z1.1.1 g x h1)
 have o1:=GenOnly.setGen s g x
 have o2:=GenOnly.setGen s₁ g y
 ⟨⟨⟨λ i v e=>have ni:i≠g:=λ q=>dh hz (q▸e); (o2.2 i ni).trans (z1.1.1 i v ((o1.2 i ni).trans (z.1.1 i v e))),λ hb=>(GenOnlyQ.of o2 h3 bY).bare (z1.1.2 ((GenOnlyQ.of o1 h1 bx).bare (z.1.2 hb)))⟩,Eq.trans (show s₁.os=s.os from z1.2) z.2⟩,h3⟩
theorem pX.mono{prog:aK}{w:bw}{A:bn}{gs:d7}{s:ar}{P P':End->ar->Prop}(h:pX prog w A gs s P)(k:∀e s',P e s'->P' e s'):pX prog w A gs s P':=by
 rcases gs with _|_|_|_
 case fresh=>exact el h k
 case suspended=>exact el h k
 all_goals exact h.elim
section
variable{F:Fd}{ct:Ct}{G Gg:BM}{ρ:ae au}{σ:St}{s s₁:ar}{a:au}{g:Nat}{gs:d7}{Ex:au->Prop}{V:AV}{Rl:d7->BM->(au->Prop)->Heap->Prop}{en:End}
theorem v9{h h':Heap}(k:∀o,h.get? a=af o->h'.get? a=af o):h.IsGen a g->h'.IsGen a g:= .imp λ o=> .imp λ aa=> .imp λ aa=> .imp_left (k o)
structure Ot(F:Fd)(ct:Ct)(G:BM)(ρ:ae au)(σ:St)(s:ar)(a:au)(g:Nat)(gs:d7)(Gg:BM)(Ex:au->Prop):Prop where
 R:RF F ct.aS G ρ σ s
 ig:s.heap.IsGen a g
 La:Loose F G ρ s a
 nE:¬Ex a
 JX:s.gens[g]?=af gs
 le:dG Gg G
 LE:∀b,Ex b->Loose F G ρ s b
theorem Ot.stop(x:Ot F ct G ρ σ s a g gs Gg Ex)(hz:F.Z.gens[g]?=none)(z:W3 Ex (s.setGen g .running) en s₁){h':Heap}(keep:∀b o,s₁.heap.get? b=af o->h'.get? b=af o):RF F ct.aS G ρ σ {s₁.setGen g .finished with heap:=h'}:=
 have kp:∀d o,¬Ex d->s.heap.get? d=af o->h'.get? d=af o:=λ d o n q=>keep d o (z.kp d o n q)
 x.R.ND (Ex:=Ex) (dG.refl _) ⟨λ d o q=>kp d o (λ w=>dh (x.LE d w).G q) (x.R.rm.kg d o q),x.R.rm.len,λ i d ao hi q=>(x.R.rm.obj i d ao hi q).imp λ o=> .imp_left (kp d o λ w=>(x.LE d w).ρ (iq hi)),x.R.rm.nd,x.R.rm.fr⟩ (λ aa aa q=> .inl q) kp
  (λ d w=>have l:=x.LE d w; ⟨l.L,l.c,l.h⟩) (LB (y:= .finished) x.R.gz hz x.JX z.gz rfl rfl).1
inductive abh(F:Fd)(ct:Ct)(G:BM)(ρ:ae au)(σ:St)(a:au)(g:Nat)(V:AV)(Rl:d7->BM->(au->Prop)->Heap->Prop)(en:End)(s₁:ar):Prop
 |mk (v:ak) (l:ae ak) (k:Resume->im Fin) (c:vT) (p:c9) (fs:ae Frame) (gs:d7) (dW G':BM) (Os:au->Prop) (e0:en= .susp v false l k c p fs) (e1:gs=(End.susp v false l k c p fs).genState) (at_:Ot F ct dW ρ σ (s₁.setGen g gs) a g gs G' Os) (le:dG G dW) (va:VR dW ρ V v) (r:Rl gs G' Os s₁.heap)
theorem Ot.mid(x:Ot F ct G ρ σ s a g gs Gg Ex)(hz:F.Z.gens[g]?=none)(z:W6 V Gg Ex Rl (s.setGen g .running) en s₁):abh F ct G ρ σ a g V Rl en s₁:=by
 rcases z with⟨v,l,k',c,p,fs,G',Os,e0,bare,z1,kg',vV,nw,kp,ex',zz,r⟩
 have gz:=LB (y:=en.genState) x.R.gz hz x.JX zz rfl bare
 have w:=x.R.gen (s':=s₁.setGen g en.genState) (Ex:=Ex) x.le kg' nw kp x.LE gz.1
 exact x.La.al.elim λ oa SB=>⟨v,l,k',c,p,fs,_,_,G',Os,e0,ah End.genState e0,⟨w.R,v9 (λ o=>kp a o x.nE) x.ig,⟨x.La.ρ,w.NB a oa SB x.La.G,x.La.h,x.La.L,x.La.c,oa,kp a oa x.nE SB⟩,
  λ q=>(ex' a q).1.elim x.nE λ q=>dh q SB,gz.2,w.r,λ d q=>have y:=ex' d q; y.1.elim (λ q=>have L:=x.LE d q; L.al.elim λ od hod=>⟨L.ρ,w.NB d od hod L.G,L.h,L.L,L.c,y.2.2⟩)
   λ q=>have L:=x.R.loose (s':=s₁.setGen g en.genState) q y.2.2; ⟨L.ρ,(BM.or_none L.G).trans y.2.1,L.h,L.L,L.c,y.2.2⟩⟩,w.l,vV.up w.r ⟨ρ,rfl⟩,r⟩
theorem Ot.over(x:Ot F ct G ρ σ s a g gs Gg Ex){G':BM}{ρ':ae au}{b8:St}(le:dG G G')(R:RF (F.now G ρ s) ct.aS G' ρ' b8 s₁):Ot F ct G' ρ' b8 s₁ a g gs Gg Ex/\∀d,Ex d->s₁.heap.get? d=s.heap.get? d:=
 have y:=x.R.over x.La R
 ⟨⟨y.1,v9 y.2.2 x.ig,y.2.1,x.nE,R.gz.1.1 g gs x.JX,x.le.trans le,λ d w=>(x.R.over (x.LE d w) R).2.1⟩,λ d w=>(x.LE d w).al.elim λ o e=>((x.R.over (x.LE d w) R).2.2 o e).trans e.symm⟩
end
section
variable{P:cC}{ct:Ct}
inductive W5(t:TG P ct)(b:SS P ct)(F:Fd)(G₀:BM)(gL:ae au)(Kv:Fl->St->Prop)(a:au)(g:Nat)(n:Nat)(s:ar):Prop
 |mk (rest:ae AV) (k:Nat) (G:BM) (ρ:ae au) (σ:St) (gs:d7) (Gg:BM) (Ex:au->Prop) (g0:dG G₀ G) (x0:Ext gL ρ) (at_:Ot F ct G ρ σ s a g gs Gg Ex) (GL:ra P.prog P.w F.A.in1 rest gs Gg Ex s.heap) (h:js t.set b.run n (.fz k rest) σ Kv)
theorem PX{t:TG P ct}{b:SS P ct}(JV:t.ch=true)(tn:t.lD=true)(cb:b.ch=true){F:Fd}(O:gO P ct F){G₀:BM}{gL:ae au}{Kv:Fl->St->Prop}{a:au}{g:Nat}(hz:F.Z.gens[g]?=none)(n:Nat)(s:ar)(i:W5 t b F G₀ gL Kv a g n s):
  dP P.j (aE P.prog P.w) F.A (.forLoop t.bA (.ref a) b.bA [] F.env) (λ r s'=>match r with | .ok f=>PF F ct.aS G₀ gL Kv f s' | .error _=>False) s:=by
 refine X.forLoop (W5 t b F G₀ gL Kv a g) (λ n s i=>?_) n i
 rcases i with⟨rest,k,G,ρ,σ,gs,Gg,Ex,g0,x0,at_,GL,h⟩
 rcases n with _|n
 ·exact h.elim
 refine at_.R.A1 O λ B tp lo mg mb aa b2 b3=>X.any (PY O.room.2.2 (b2.nolimit.keeps b3) (aU (bq _ _) (b_ O.room.1 (by decide))) at_.ig at_.JX ?_)
 have kgs:KG Gg (s.setGen g .running).heap:=λ a o q=>at_.R.rm.kg a o (at_.le a o q)
 rcases rest with _|⟨V,r⟩
 ·refine pX.mono (GL _ kgs λ aa aa=>rfl) λ e s₁ z=>?_
  cases z.e
  exact⟨rfl,λ h' keep=>PF.d8 g0 x0 (at_.stop hz z keep) h⟩
 ·refine pX.mono (GL _ kgs λ aa aa=>rfl) λ e s₁ z=>?_
  rcases at_.mid hz z with⟨v,l,k',c,p,fs,qc,dW,G',Os,e0,e1,Gv,le,va,GL'⟩
  subst e0
  dsimp only
  rw[← e1]
  refine X.any (t.go F.A (s₁.setGen g qc) a v _ (.inl tn) (X.any (c7 (t.ok JV (F.now dW ρ (s₁.setGen g qc)) dW ρ σ _ V v _ (O.now Gv.R) Gv.R.now va h) (λ aa bp z=>z.elim λ aI z=>?_) λ aa aa z=>z)))
  refine X.mono (b.ok cb (F.now dW ρ (s₁.setGen g qc)) dW ρ aI bp _ (O.now Gv.R) z.1 z.2) λ f fY z=>z.u λ rT lg fl dC kM kS lI fr fK=>?_
  have o:=Gv.over kM lI
  rcases fl with _|v'
  ·cases(show f= .next from fr)
   exact⟨n,jq n,r,k+1,rT,lg,dC,qc,G',Os,g0.trans (le.trans kM),x0.trans kS,o.1,GL'.abH o.2,fK⟩
  ·obtain⟨u,rfl,vu⟩:=fr
   exact⟨rT,lg, .ret v',dC,g0.trans (le.trans kM),x0.trans kS,o.1.R,⟨u,rfl,vu⟩,fK⟩
end
section
variable{prog:aK}{w:bw}{A:bn}{s:ar}
theorem Lv{f:au}{o:Obj}{fd:dR}{body:ae f5}{vals:ae ak}{binds:ae (bI×ak)}{Q:ak->ar->Prop}(uD:A.depth < tz)(ho:s.heap.get? f=af o)(hd:o.data= .func fd)(LN:s.heap.NoLimit)(Ym:s.heap.CodeRec fd.code fd.qualname)
  (CF:fd.body= .stmts body) (CD:mV s fd ⟨vals,[]⟩ binds) (UL:fd.closure=[]) (y2:∀x∈binds,fd.scope.names.lookup x.1=af .local\/(fd.scope.names.lookup x.1=af .cell/\((cellsFrom (s.heap.objs.size+1) fd.scope.names []).lookup x.1).isSome=true))
  (Of:fd.scope.isCoroutine=false) (LL:fd.scope.isGenerator=true) (hk:fd.scope.kind= .function)
  (h:∀bp,InCallC s (eE fd s.heap.objs.size f).locals (bindL (eE fd s.heap.objs.size f).kindOf binds λ aa=>none) (eE fd s.heap.objs.size f).cells (bindC (eE fd s.heap.objs.size f).kindOf binds λ aa=>none) bp->
   Q (.ref bp.heap.objs.size) {bp with gens:=bp.gens.push (.fresh (.func body (eE fd s.heap.objs.size f))),toks:=bp.toks+1+1,heap:=bp.heap.push {cls:= .type "generator",data:= .fields #[.int bp.gens.size 0, .str fd.name bp.toks, .str fd.qualname (bp.toks+1)]}}):
  aH (aE prog w) A (call (.ref f) vals) Q dw s:=by
 refine vZ (codeAny_call_generator uD ho hd Of LL CF Ym (CD _ _ _ _ ?_))
 rw[UL]
 refine Ek hk y2 λ env he s' x=>⟨LN.keeps x.toInCall.keep,?_⟩
 subst he
 exact h s' x
end
theorem sE:∀(l:ae (bI×dJ)) (n:Nat) (acc:ae (bI×au)),(∀x∈l,x.2≠ .cell)->cellsFrom n l acc=acc
 |[],_,_,_=>rfl
 |(x,k)::r,n,acc,h=>by
  exact(ah (λ b=>if b=true then cellsFrom (n+1) r ((x,n)::acc) else cellsFrom n r acc) (ed.mpr (h (x,k) (.head _)))).trans (sE r n acc λ y hy=>h y (.tail _ hy))
structure qV(P:cC)(f:au)(vs Vs:ae AV):Prop where
 run:∀(A:bn) (G:BM) (ρ:ae au) (mem:ae AO) (s:ar) (us:ae ak) (Q:ak->ar->Prop),mG A P.d->P.Φ G->RM G ρ mem s.heap->bJ G ρ vs us->
  (∀s' a gs L,(∀b o,s.heap.get? b=af o->s'.heap.get? b=af o)->s.heap.get? a=none->s'.heap.IsGen a s.gens.size->s'.gens[s.gens.size]?=af gs->GZ s s'->s.heap.get? L=none->(∃o,s'.heap.get? L=af o)->L≠a->
   ra P.prog P.w A.in1 Vs gs G (λ d=>d=L) s'.heap->Q (.ref a) s')->aH (aE P.prog P.w) A (call (.ref f) us) Q dw s
section
variable{P:cC}{ct:Ct}
noncomputable abbrev GKn(P:cC):=(g:au)->(vs:ae AV)->aq {Vs:ae AV // qV P g vs Vs}
theorem FB(t:TG P ct)(b:SS P ct)(JV:t.ch=true)(tn:t.lD=true)(cb:b.ch=true){F:Fd}(O:gO P ct F){G₀ G:BM}{gL ρ:ae au}{σ:St}{s s':ar}{Kv:Fl->St->Prop}{a L:au}{gs:d7}{Vs:ae AV}{N:Nat}(g:dG G₀ G)(x:Ext gL ρ)
  (R:RF F ct.aS G ρ σ s) (keep:∀b o,s.heap.get? b=af o->s'.heap.get? b=af o) (ha:s.heap.get? a=none) (ig:s'.heap.IsGen a s.gens.size) (JX:s'.gens[s.gens.size]?=af gs) (zz:GZ s s') (hL:s.heap.get? L=none) (al:∃o,s'.heap.get? L=af o) (La:L≠a)
  (GL:ra P.prog P.w F.A.in1 Vs gs G (λ d=>d=L) s'.heap) (h:js t.set b.run N (.fz 0 Vs) σ Kv):aH (aE P.prog P.w) F.A (iB (.ref a)) (λ i s'=>dP P.j (aE P.prog P.w) F.A (.forLoop t.bA i b.bA [] F.env) (λ r s'=>match r with | .ok f=>PF F ct.aS G₀ gL Kv f s' | .error _=>False) s') dw s':=
 wpAny_pyIter_gen ig (PX JV tn cb O (none_of λ y e=>dh (Bs (cF _)) (R.gz.1.1 _ y e)) N s' ⟨Vs,0,G,ρ,σ,gs,G,λ d=>d=L,g,x,
  ⟨R.ND (Ex:=λ aa=>False) (dG.refl _) (R.rm.keeps keep) (λ aa aa e=> .inl e) (λ d o aa e=>keep d o e) (λ aa w=>w.elim) (R.gz.trans zz),ig,R.loose ha (ig.imp λ o h=>h.elim λ aa h=>h.elim λ aa h=>h.1),La.symm,JX,dG.refl _,λ d w=>w▸R.loose hL al⟩,GL,h⟩)
def ZK(t:TG P ct)(f:SE P ct)(as:SL P ct)(cp:c9)(b:SS P ct)(p:c9)(gk:GKn P:=λ aa aa=>none):SX P ct where
 bA:= .For t.bA (.Call f.bA as.bA [] cp) b.bA [] p
 run:=λ σ K=>f.run σ λ fv aI=>Zn fv λ g=>as.run aI λ vs aW=>∃Vs,qV P g vs Vs/\∃N,js t.set b.run N (.fz 0 Vs) aW K
 ch:=isNm f.bA&&((t.ch&&t.lD)&&((f.ch&&as.ch)&&b.ch))
 ok:=λ c F G ρ σ s Kv O R h=>have hf:=wX (aF c).1
  have c:=(aF c).2
  have ct:=aF (aF c).1
  have cf:=aF (aF c).2
  X.For (λ aa=>rfl) (zX f as hf (aF cf.1).1 (aF cf.1).2 O R h λ g dx vs jr g8 aW bp le x gP q9 w=>w.elim λ Vs w=>w.2.elim λ N w2=>X.any (w.1.run F.A jr g8 aW.mem bp vs _ O.room (gP.ja O) gP.rm q9 λ s' a gs L keep ha ig JX zz hL al La GL=>X.any (FB t b ct.1 ct.2 cf.2 O le x gP keep ha ig JX zz hL al La GL w2)))
 ab:=λ s=>bO (f.ab s) λ u s=>ob (tFn u) λ g=>bO (as.ab s) λ vs s=>ob (toAVs vs) λ us=>ob (gk g.1 us.1) λ Vs=>Co t.st b.ab 12 (.fz (yW Vs.1)) s
 cO:=λ fo s outs h σ gs=>(f.cO fo).bind h gs λ u s l h a σ ga gs=>ob.u h λ g aa h=>(lC ga g.2).symm▸(as.cO fo).bind h gs λ ts s l h vs σ UJ gs=>ob.u h λ us aa h=>ob.u h λ Vs aa h=>
  (us.2 _ UJ).symm▸(sH (b.cO fo) 12 (.fz (yW Vs.1)) (.fz 0 Vs.1) ⟨0,Vs.1,rfl,lr Vs.1⟩ s l h σ gs).eq λ K z=>⟨Vs.1,Vs.2,12,z⟩
end
theorem bJ.close{G:BM}{ρ:ae au}{vs:ae AV}{us:ae ak}(cl:∀f,ew f vs=vs)(h:bJ G ρ vs us):bJ G [] vs us:=
 bJ.lO (ρ:=[]) (ρ':=ρ) (f:=λ i=>ρ.length+i) (λ i a e=>dh (ff (bq _ _)) e) vs ((cl _).symm▸h)
theorem zf{A:bn}{d u:Nat}{B:bn}(h:mG A (d+1))(hd:B.depth<=A.depth+1)(hu:B.units<=A.units+4)(hh:B.handled=A.handled):mG B d:=
 ⟨by have:=h.1; omega,by have:=h.2.1; omega,hh.trans h.2.2⟩
theorem GK.push{a:bD d7}{x:d7}(b:x.bare=true):GK a (a.push x):=
 ⟨λ i y e=>(Array.getElem?_push_lt (Array.getElem?_eq_some_iff.mp e).1).trans ((e9 _).symm.trans e),λ hb y hy=>(Array.mem_push.mp hy).elim (hb y) λ e=>e▸b⟩
theorem Xw{s:ar}{fd:dR}{us:ae ak}{xs:ae bI}(h:mV s fd ⟨us,[]⟩ (xs.zip (us++[]))):mV s fd ⟨us,[]⟩ (xs.zip us):=by rw[bS] at h; exact h
section
variable{P:cC}{cg:Ct}{st:GQ P cg}{f:au}{fd:dR}{x0 x1 x2:bI}{n:Nat}
theorem qV.go(k:st.Ok)(D:J3 P cg [x0,x1] [] st.body fd true)(tb:cg.aS=[x0,x1,x2,Hn cg 3])(WT:∀y∈cg.names,y.2≠ .cell)(ro:cg.ro=false)(hb:cg.tb=false)(cq:cg.cq=false)(hn:st.cnt=n+1){A:bn}{G:BM}{ρ:ae au}{mem:ae AO}{s:ar}{us:ae ak}{Q:ak->ar->Prop}
  (room:mG A (P.d+1)) (ja:P.Φ G) (R:RM G ρ mem s.heap) (hv:bJ G [] [st.a,st.b] us) {o:Obj} (ho:s.heap.get? f=af o) (hf:o.data= .func fd) (hK:P.K.In s.heap) (lim:s.heap.NoLimit)
  (h:∀s' a gs L,(∀b o,s.heap.get? b=af o->s'.heap.get? b=af o)->s.heap.get? a=none->s'.heap.IsGen a s.gens.size->s'.gens[s.gens.size]?=af gs->GZ s s'->s.heap.get? L=none->(∃o,s'.heap.get? L=af o)->L≠a->
   ra P.prog P.w A.in1 (Uc st.V 0 (n+1)) gs G (λ d=>d=L) s'.heap->Q (.ref a) s'):aH (aE P.prog P.w) A (call (.ref f) us) Q dw s:=by
 have LJ:([x0,x1].zip us).map (·.1)=[x0,x1]:=hJ (aV hv.length.symm)
 have nc:∀{x:bI},cg.names.lookup x≠af .cell:=λ e=>WT _ (mem_of_lookup e) rfl
 have loc:∀x∈[x0,x1],cg.names.lookup x=af .local:=λ x hx=>(D.kinds x hx).resolve_right nc
 refine Lv (aU (bq _ _) (b_ room.1 (by decide))) ho hf lim (codeRec_of hK D.code) D.body (Xw (D.bind s us hK hv.length)) D.T4 (λ y hy=> .inl (D.scope▸loc y.1 (LJ▸hF hy))) D.co D.gen D.kind λ bp ic=>?_
 have ec:(eE fd s.heap.objs.size f).cells=[]:=sE _ _ _ (D.scope.symm▸WT)
 have hk:∀x,(eE fd s.heap.objs.size f).kindOf x=cg.names.lookup x:=λ x=>ah (·.lookup x) D.scope
 have dead:s.heap.get? s.heap.objs.size=none:=df (cF _)
 have lt:s.heap.objs.size < bp.heap.objs.size:=ic.toInCall.ns.elim λ aa h=>h.elim λ aa h=>h.elim λ aa h=>b9 h.1
 have sg:bp.gens=s.gens/\bp.os=s.os:=ic.done.elim λ h' q=>q.elim λ tk q=>q.1▸⟨rfl,rfl⟩
 have al:∀{x:Obj},∃o,(bp.heap.push x).get? s.heap.objs.size=af o:=ic.toInCall.ns.imp λ aa h=>h.elim λ aa h=>h.elim λ aa h=>aA _ h.1
 refine h _ _ (.fresh (.func st.body (eE fd s.heap.objs.size f))) s.heap.objs.size (λ d o q=>aA _ (ic.toInCall.keep d o q)) (df (eZ lt)) ?_ ((ah (λ g=>(bp.gens.push _)[g]?) (ah Array.size sg.1.symm)).trans Array.getElem?_push_size)
  ⟨sg.1▸GK.push rfl,sg.2⟩ dead al (dO lt) (IS (g:={st with A:=A.in1,E:=eE fd s.heap.objs.size f}) {k with
   fr:=⟨D.kind,D.scope,D.glob,D.blt,ec,λ y=>nc,D.names,ro,hb,cq⟩,S4:=zf (u:=0) room (cF _) (cF _) rfl,room:=λ I p=>zf (u:=0) room (cF _) (cF _) rfl,Of:=D.co} hn ja
   ⟨_,zJ (λ aa=>aA _) ic.toInCall.ns,λ i x v e e' n=>(Kw (aS:=cg.aS) (rest:=[x2,Hn cg 3]) tb hv.length hv e ((tb▸rfl:fill cg.aS [st.a,st.b]=[st.a,st.b, .undef, .undef]).symm▸e') n).imp λ u z=>
    have l:=(hk x).trans (loc x z.2.2); ⟨z.1,l,wl _ l _ (LJ.symm▸(gU.mp (show([x0,x1]++[x2,Hn cg 3]).Nodup from(ah List.Nodup tb).mp D.names)).1) z.2.1⟩⟩ (R.yz dead))
 exact sg.1▸⟨_,_,_,aN _ rfl,rfl,rfl,rfl⟩
theorem qV.of(k:st.Ok)(H:J3 P cg [x0,x1] [] st.body fd true)(ho:∃oc od Zo,P.K.lookup f=af (⟨oc,od, .func fd,Zo⟩:Obj))(tb:cg.aS=[x0,x1,x2,Hn cg 3])(WT:∀y∈cg.names,y.2≠ .cell)(ro:cg.ro=false)(hb:cg.tb=false)(cq:cg.cq=false)(hn:st.cnt=n+1)
  (cl:∀f,ew f [st.a,st.b]=[st.a,st.b]):qV P.up f [st.a,st.b] (Uc st.V 0 (n+1)):=
 ⟨λ A G ρ mem s us Q room ja R hv h=>R.A1 (P:=P) ja λ aa aa aa aa aa b1 b2 b3=>ho.elim λ aa k1=>k1.elim λ aa k1=>k1.elim λ aa k1=>qV.go k H tb WT ro hb cq hn room ja R (hv.close cl) (b1.keeps b3 _ _ k1) rfl (b1.keeps b3) (b2.nolimit.keeps b3) h⟩
end
namespace X
section
variable{prog:aK}{w:bw}{J:aC}{A:bn}{R:iT->ar->Prop}{s:ar}
theorem expr{e:aB}{env:Env}(h:cL J (aE prog w) (A.deeper env) (eval e env) (λ v s'=>R (.ok (.ret v)) s') s):dP J (aE prog w) A (.expr e env) R s:=by
 refine tree ?_
 show cL J _ (A.deeper env) (do point; PySem.ret (← (eval e env).onRaise (leaving env))) _ s
 exact cM (any (Bh (cM (raises (mono h λ v s' h'=>X.ret h')))))
theorem IE{a:au}{o:Obj}{fd:dR}{body:aB}{vals:ae ak}{binds:ae (bI×ak)}
  (uD:A.depth < tz) (ho:s.heap.get? a=af o) (LH:o.data= .func fd) (LN:s.heap.NoLimit) (Ym:s.heap.CodeRec fd.code fd.qualname)
  (CF:fd.body= .expr body) (CD:mV s fd ⟨vals,[]⟩ binds) (ace:∀x∈binds,fd.scope.names.lookup x.1=af .local) (Yn:∀x∈fd.scope.names,x.2≠ .cell)
  (Of:fd.scope.isCoroutine=false) (LL:fd.scope.isGenerator=false) (hk:fd.scope.kind= .function)
  (h:∀h',h'.Ns s.heap.objs.size (λ x=>binds.reverse.lookup x)->(∀b o,s.heap.get? b=af o->h'.get? b=af o)->
   cL J (aE prog w) (A.deeper (newEnv fd.scope s.heap.objs.size fd.globals fd.closure (fd.qualname++".<locals>.") (af a) fd.code none fd.builtins)) (eval body (newEnv fd.scope s.heap.objs.size fd.globals fd.closure (fd.qualname++".<locals>.") (af a) fd.code none fd.builtins))
    (λ v s'=>R (.ok (.ret v)) s') {s with heap:=h',toks:=s.toks+binds.length}):
  dP J (aE prog w) A (.call (.ref a) ⟨vals,[]⟩) R s:=by
 refine tree ?_
 show cL J _ A.in1 (D5 (.ref a) ⟨vals,[]⟩) _ s
 unfold D5
 dsimp only
 refine cM (any (iU ho ?_))
 obtain⟨c,oc,vs,tq,hc,Yv,hdc,hq⟩:=Ym
 rw[LH]
 dsimp only
 unfold callFunction
 dsimp only
 rw[hc] at h
 rw[Of,LL,hc,CF]
 dsimp only
 refine cM (m:=field (.ref c) 1) (any (wpAny_field Yv hdc hq (cM (X.ret ?_))))
 refine cM (any (CD _ _ _ _ (cM (any ?_))))
 refine wpAny_newFunctionEnv Yn ace (λ h' SA SC=>?_) hk
 have kk:∀b o,s.heap.get? b=af o->h'.get? b=af o:=λ b o e=>SC.extBut b o (dO (b9 e)) (aA _ e)
 have nl:h'.NoLimit:=LN.keeps kk
 exact cM (any (wpAny_enterFrame nl uD (X.ret ⟨rfl,rfl,expr (h h' SA kk)⟩)))
end
end X
noncomputable def q4(a b c d:Nat):c9:=⟨a,b,c,d⟩
def vB:qM:={posonlyargs:=[],args:=[{arg:="told",annotation:=none,pos:=q4 487 59 487 63}],vararg:=none,kwonlyargs:=[],kw_defaults:=[],kwarg:=none,defaults:=[]}
noncomputable def GJ:Ct:={names:=[("told", .local),("intervals", .free),("n", .free),("scan", .free),("data_size", .globalImplicit),("arith_writer", .globalImplicit)],aS:=["told","intervals","n","scan"]}
noncomputable def mI:qN:={kind:= .function,names:=GJ.names,isGenerator:=false,isCoroutine:=false,more:=[]}
noncomputable def uF(c1 c2 c3:au):ae (bI×au):=[("scan",c3),("n",c2),("intervals",c1)]
def oO(G:BM)(c:au)(a:AV):Prop:=∃o v,G c=af o/\o.data= .cell (af v)/\VR G [] a v
inductive ui(body:aB)(lf:au)(iv nn sc:AV)(G:BM):Prop
 |mk (c1 c2 c3 c':au) (K2 pm:ak) (oc:Obj) (vs:bD ak) (t:kx) (h1:G lf=af (kla_obj "<lambda>" nk vB body mI (uF c1 c2 c3) pm c' K2)) (h2:G c'=af oc) (hd:oc.data= .fields vs) (hv:vs[1]?=af (.str nk t))
  (k1:oO G c1 iv) (k2:oO G c2 nn) (k3:oO G c3 sc) (Oi:c1≠c2) (Oj:c1≠c3) (Ol:c2≠c3)
theorem oO.up{G G':BM}(g:dG G G'){c:au}{a:AV}:oO G c a->oO G' c a:= .imp λ aa=> .imp λ aa=> .imp (g _ _) (.imp_right (VR.up g (Ext.refl _) _))
theorem ui.up{body:aB}{lf:au}{iv nn sc:AV}(G G':BM)(g:dG G G')(h:ui body lf iv nn sc G):ui body lf iv nn sc G':=by
 rcases h with⟨c1,c2,c3,c',K2,pm,oc,vs,t,h1,h2,hd,hv,k1,k2,k3,Oi,Oj,Ol⟩
 exact⟨c1,c2,c3,c',K2,pm,oc,vs,t,g _ _ h1,g _ _ h2,hd,hv,k1.up g,k2.up g,k3.up g,Oi,Oj,Ol⟩
noncomputable def J0{α β:Type}(Q:α->β->Prop):ae α->ae β->Prop
 |x::xs,v::vs=>Q x v/\J0 Q xs vs
 |_,_=>True
theorem J0.at{α β:Type}{Q:α->β->Prop}:∀{xs:ae α} {vs:ae β} {i:Nat} {x:α} {v:β},J0 Q xs vs->xs[i]?=af x->vs[i]?=af v->Q x v
 |[],_,_,_,_=>λ aa e aa=>cm e
 |_::_,[],_,_,_=>λ aa aa e=>cm e
 |_::_,_::_,0,_,_=>λ h e e'=>am e▸am e'▸h.1
 |_::_,_::_,i+1,_,_=>λ h e e'=>J0.at (i:=i) h.2 e e'
section
variable{P:cC}{b:SE P GJ}{lf:au}{iv nn sc a:AV}{mem:ae AO}{K:AV->ae AO->Prop}{A:bn}{G:BM}{ρ:ae au}{s:ar}{vs:ae ak}{h':Heap}{c c1 c2 c3:au}{cv u:ak}{d:Nat}
structure yx(G:BM)(ρ:ae au)(s:ar)(h':Heap)(c:au)(a:AV):Prop where
 L:c≠s.heap.objs.size
 r:c∉ρ
 at_:∃v,VR G ρ a v/\h'.IsCell c (af v)
theorem oO.f(h:oO G c a)(R:RM G ρ mem s.heap)(kk:∀b o,s.heap.get? b=af o->h'.get? b=af o):yx G ρ s h' c a:=
 h.elim λ o h=>h.elim λ v h=>⟨λ e=>dh (df (aV e.symm)) (R.kg _ _ h.1),λ hm=>dh (R.fr c hm) h.1,v,VR.up (dG.refl _) ⟨ρ,rfl⟩ _ h.2.2,o,kk _ _ (R.kg _ _ h.1),h.2.1⟩
abbrev oZ(s:ar)(lf c1 c2 c3:au)(cv:ak):Env:=newEnv mI s.heap.objs.size dk (uF c1 c2 c3) (nk++".<locals>.") (af lf) cv none li
theorem K1:∀y∈GJ.names,y.2≠ .cell:=by decide
theorem EP{x:bI}{Q:Prop}(h:GJ.names.lookup x=af .cell):Q:=bt rfl (K1 _ (mem_of_lookup h))
theorem U_(R:RM G ρ mem s.heap)(SA:h'.Ns s.heap.objs.size λ x=>([(("told":bI),u)]:ae (bI×ak)).reverse.lookup x)(kk:∀b o,s.heap.get? b=af o->h'.get? b=af o)(vu:VR G ρ a u)(k1:yx G ρ s h' c1 iv)(k2:yx G ρ s h' c2 nn)(k3:yx G ρ s h' c3 sc)
  (Oi:c1≠c2) (Oj:c1≠c3) (Ol:c2≠c3) {t:Nat}:RF ⟨A,oZ s lf c1 c2 c3 cv,s.heap,ρ,G,s,false⟩ GJ.aS G ρ ⟨[a,iv,nn,sc],mem⟩ {s with heap:=h',toks:=t}:=
 have cl:∀{x:bI} {c:au} {a:AV},yx G ρ s h' c a->(uF c1 c2 c3).lookup x=af c->(oZ s lf c1 c2 c3 cv).kindOf x=af .free->∃u,VR G ρ a u/\At (oZ s lf c1 c2 c3 cv) h' x u:=λ k e z=>k.at_.imp λ u q=>⟨q.1, .inr ⟨.inr z,_,e,q.2⟩⟩
 have cf:∀{x:bI} {c:au} {a:AV},yx G ρ s h' c a->c≠s.heap.objs.size/\c∉ρ/\(∃v,h'.IsCell c v)/\((oZ s lf c1 c2 c3 cv).kindOf x=af .cell->G c=none):=λ k=>⟨k.L,k.r,k.at_.elim λ aa q=>⟨_,q.2⟩,EP⟩
 RF.first R kk (df (cF _)) ⟨_,SA⟩ (λ x c e=>aJ (p:=λ p:bI×au=>p.2≠s.heap.objs.size/\p.2∉ρ/\(∃v,h'.IsCell p.2 v)/\((oZ s lf c1 c2 c3 cv).kindOf p.1=af .cell->G p.2=none)).mpr ⟨cf k3,aJ.mpr ⟨cf k2,aJ.mpr ⟨cf k1,λ aa h=>bt h bK⟩⟩⟩ (x,c) (mem_of_lookup (l:=uF c1 c2 c3) e))
  (λ x y c e e'=>name_of_addr (cs:=uF c1 c2 c3) (JF.mpr ⟨aJ.mpr ⟨Ol.symm,aJ.mpr ⟨Oj.symm,λ aa h=>bt h bK⟩⟩,JF.mpr ⟨aJ.mpr ⟨Oi.symm,λ aa h=>bt h bK⟩,pg _ _⟩⟩) (mem_of_lookup e) (mem_of_lookup e'))
  (λ i x v e e' aa=>J0.at (Q:=λ x v=>∃u,VR G ρ v u/\At (oZ s lf c1 c2 c3 cv) h' x u) (xs:=["told","intervals","n","scan"]) (vs:=[a,iv,nn,sc]) ⟨⟨u,vu, .inl ⟨rfl,_,SA,rfl⟩⟩,cl k1 rfl rfl,cl k2 rfl rfl,cl k3 rfl rfl,trivial⟩ e e') (GZ.of ⟨rfl,rfl,rfl⟩)
theorem U7:RS ["told"]:=λ fd vs=>by kernel_rfl
theorem WC.lam(hΦ:∀G,P.Φ G->ui b.bA lf iv nn sc G)(ch:b.ch=true)(h:b.run ⟨[a,iv,nn,sc],mem⟩ λ v σ=>K v σ.mem):WC P.up lf [a] mem K:=by
 refine⟨λ A G ρ s vs room ja R hv=>R.A1 (P:=P) ja λ aa aa aa aa aa aa b2 b3=>?_⟩
 rcases hΦ G ja with⟨c1,c2,c3,c',K2,pm,oc,fs,t,h1,h2,h2d,h2v,k1,k2,k3,Oi,Oj,Ol⟩
 refine hv.u1 (Q:=λ vs=>dP P.j (aE P.prog P.w) A (.call (.ref lf) ⟨vs,[]⟩) (Ht (WQ G ρ s K)) s) λ u vu=>?_
 refine X.IE (fd:=kla_fn "<lambda>" nk vB b.bA mI (uF c1 c2 c3) pm (.ref c') K2) (aU (bq _ _) (b_ room.1 (by decide))) (R.kg _ _ h1) rfl (b2.nolimit.keeps b3) ⟨c',oc,fs,t,rfl,R.kg _ _ h2,h2d,h2v⟩ rfl
  (uH U7 rfl rfl s [u] rfl) (λ x hx=>(be.mp hx:x=(("told":bI),u))▸rfl) K1 rfl rfl rfl λ h' SA kk=>?_
 have O:gO P GJ ⟨A.deeper (oZ s lf c1 c2 c3 (.ref c')),oZ s lf c1 c2 c3 (.ref c'),s.heap,ρ,G,s,false⟩:=⟨rfl,rfl,rfl,rfl,room.deeper,ja,qD rfl,rfl,λ x=>EP,λ hx=>ay hx,λ hx=>ay hx⟩
 exact X.mono (b.ok ch _ G ρ _ _ _ O (U_ R SA kk vu (k1.f R kk) (k2.f R kk) (k3.f R kk) Oi Oj Ol) h) λ v s' z=>z.u λ G' ρ' av b8 g x R' vv hk=>RF.leave (env:=oZ s lf c1 c2 c3 (.ref c')) (df (cF _)) (λ x c aa q aa=>EP q) g x R' vv hk
end
section
noncomputable def tu:ae AV->Prop
 |[]=>True
 |v::r=>(∃i,v= .int i)/\tu r
theorem tu.vrs{G G':BM}{ρ ρ':ae au}:∀{us:ae AV} {vs:ae ak},tu us->bJ G ρ us vs->bJ G' ρ' us vs
 |[],_=>λ aa=>id
 |v::r,vs=>λ hi h=>hi.1.elim λ i e=>h.uc (Q:=λ vs=>bJ G' ρ' (v::r) vs) λ u t h1 h2=> .cons (e▸(e▸h1:VR G ρ (.int i) u)) (tu.vrs hi.2 h2)
noncomputable def Qy(o:Obj):Prop:=∀v,o.data≠ .cell v
abbrev Gc(G G':BM):Prop:=∀a o,G a=af o->Qy o->G' a=af o
theorem pE.drop{G G':BM}(k:Gc G G'):∀{ks:ae (ae Int)} {es:ae bf} {us:ae ak},pE G ks es us->pE G' ks es us
 |[],_,_=>id
 |_::_,_,_=> .imp λ aa=> .imp λ aa=> .imp λ aa=> .imp λ aa=> .imp λ aa=> .imp λ aa=> .imp_right<| .imp_right<| .imp (λ h=>⟨k _ _ h.1 (h.2.2.elim λ n e v q=>nomatch e.symm.trans q),h.2⟩)<| .imp_right<|pE.drop k
theorem VR.XV{G G':BM}{ρ ρ':ae au}(k:Gc G G'){ks:ae (ae Int)}{us:ae AV}(hi:tu us){v:ak}:VR G ρ (.bG ks us) v->VR G' ρ' (.bG ks us) v:=
 .imp λ aa=> .imp λ aa=> .imp λ aa=> .imp λ aa=> .imp λ aa=> .imp_right λ h=>⟨k _ _ h.1 (λ v q=>nomatch h.2.2.1.symm.trans q),h.2.1,h.2.2.1,h.2.2.2.1.drop k,hi.vrs h.2.2.2.2.1,h.2.2.2.2.2⟩
noncomputable def cC.lam(P:cC)(body:aB)(lf:au)(iv nn sc:AV):cC:={P with
 Φ:=λ G=>P.Φ G/\ui body lf iv nn sc G
 mono:=λ G G' g h=>⟨P.mono G G' g h.1,ui.up G G' g h.2⟩
 base:=λ G h=>P.base G h.1
 glob:=λ G x v ρ h=>P.glob G x v ρ h.1
 Jx:=λ G h=>P.Jx G h.1}
open Classical in
noncomputable def BM.plus(G:BM)(h:Heap)(l:ae au):BM:=λ a=>if a∈l then h.get? a else G a
open Classical in
noncomputable def BM.less(G:BM)(l:ae au):BM:=λ a=>if a∈l then none else G a
section
variable{G:BM}{h:Heap}{l:ae au}{a:au}{o:Obj}
theorem BM.mr(m:a∈l):G.plus h l a=h.get? a:=dq m
theorem BM.Dm(m:a∉l):G.plus h l a=G a:=bC m
theorem BM.Hz(k:KG G h):dG G (G.plus h l):=λ a o e=>(d5 (a∈l)).elim (λ m=>(BM.mr m).trans (k a o e)) λ m=>(BM.Dm m).trans e
theorem BM.HA(e:G.plus h l a=af o):G a=af o\/(a∈l/\h.get? a=af o):=(d5 (a∈l)).elim (λ m=> .inr ⟨m,(BM.mr m).symm.trans e⟩) λ m=> .inl ((BM.Dm m).symm.trans e)
theorem BM.He(m:a∉l)(e:G a=af o):G.less l a=af o:=(bC m).trans e
theorem BM.Hf(e:G.less l a=af o):G a=af o/\a∉l:=(d5 (a∈l)).elim (λ m=>dh (dq m) e) λ m=>⟨(bC m).symm.trans e,m⟩
end
structure mF(G:BM)(ρ:ae au)(s:ar)(c:au)(a:AV):Prop where
 at_:∃u,VR G ρ a u/\s.heap.IsCell c (af u)
 r:c∉ρ
 g:G c=none
structure Gf(body:aB)(G:BM)(s:ar)(c1 c2 c3 lf c':au)(s':ar):Prop where
 dead:s.heap.get? lf=none
 lo:∃pm K2,s'.heap.get? lf=af (kla_obj "<lambda>" nk vB body mI (uF c1 c2 c3) pm c' K2)
 keep:∀b o,b≠dM->s.heap.get? b=af o->s'.heap.get? b=af o
 tab:∃ps,s'.heap.get? dM=af (tw ps)/\TriplesOk ps.toList/\codeAmong Ar ps.toList=af (.ref c')
 co:∃oc fs t,s'.heap.get? c'=af oc/\(oc.data= .fields fs/\fs[1]?=af (.str nk t))/\(G c'=af oc\/s.heap.get? c'=none)
 nct:c'≠dM
 z:s'.gens=s.gens/\s'.os=s.os
section
variable{P:cC}{ct:Ct}
theorem VR.close{G:BM}{ρ:ae au}{a:AV}{u:ak}(cl:∀f,eA f a=a)(h:VR G ρ a u):VR G [] a u:=
 VR.lO (ρ:=[]) (ρ':=ρ) (f:=λ i=>ρ.length+i) (λ i a e=>dh (ff (bq _ _)) e) a ((cl _).symm▸h)
theorem zY{F:Fd}{G:BM}{ρ:ae au}{σ:St}{s:ar}(O:gO P ct F)(R:RF F ct.aS G ρ σ s){i:Nat}{x:bI}{a:AV}(ht:ct.aS[i]?=af x)(hk:ct.names.lookup x=af .cell)(hl:fE σ.loc i=a)(hn:a≠ .undef):∃c,F.env.cells.lookup x=af c/\mF G ρ s c a:=
 have kk:F.env.kindOf x=af .cell:=(ah (·.lookup x) O.names).trans hk
 (R.loc i x a ht (qB _ _ _ hl hn) hn).elim λ u h=>h.2.elim (λ k=>nomatch kk.symm.trans k.1) λ k=>k.2.elim λ c k=>have q:=R.cell x c k.1; ⟨c,k.1,⟨u,h.1,k.2⟩,q.2.1,q.2.2.2 kk⟩
section
variable{body:aB}{lf c c1 c2 c3:au}{F:Fd}{G G':BM}{σ:St}{s s' s'':ar}{a iv nn sc:AV}
theorem mF.kept(k:mF G [dM] s c a)(keep:∀b o,b≠dM->s.heap.get? b=af o->s'.heap.get? b=af o):∃o u,VR G [dM] a u/\s'.heap.get? c=af o/\o.data= .cell (af u):=k.at_.elim λ u q=>q.2.elim λ o w=>⟨o,u,q.1,keep c o (λ e=>k.r (e▸ .head _)) w.1,w.2⟩
theorem mF.to(k:mF G [dM] s c a)(keep:∀b o,b≠dM->s.heap.get? b=af o->s'.heap.get? b=af o)(cl:∀f,eA f a=a)(le:dG G G')(e:G' c=s'.heap.get? c):oO G' c a:=
 (k.kept keep).elim λ o h=>h.elim λ u h=>⟨o,u,e.trans h.2.1,h.2.2,VR.up le (Ext.refl _) _ (h.1.close cl)⟩
noncomputable abbrev I5(c1 c2 c3 lf c':au):ae au:=[lf,c',c1,c2,c3]
variable{c':au}{ad9:aB}
theorem U8(m:Gf body G s c1 c2 c3 lf c' s')(kg:KG G s'.heap)(ja:P.Φ G)(k1:mF G [dM] s c1 iv)(k2:mF G [dM] s c2 nn)(k3:mF G [dM] s c3 sc)(cl:(∀f,eA f iv=iv)/\(∀f,eA f nn=nn)/\∀f,eA f sc=sc)(Oi:c1≠c2)(Oj:c1≠c3)(Ol:c2≠c3):
  (P.lam body lf iv nn sc).Φ (G.plus s'.heap (I5 c1 c2 c3 lf c'))/\RM (G.plus s'.heap (I5 c1 c2 c3 lf c')) [] [] s'.heap:=
 have le:=BM.Hz (l:=I5 c1 c2 c3 lf c') kg
 ⟨⟨P.mono _ _ le ja,m.lo.elim λ pm q=>q.elim λ K2 q=>m.co.elim λ oc w=>w.elim λ fs w=>w.elim λ t w=>
  ⟨c1,c2,c3,c',K2,pm,oc,fs,t,(BM.mr (.head _)).trans q,(BM.mr (.tail _ (.head _))).trans w.1,w.2.1.1,w.2.1.2,k1.to m.keep cl.1 le (BM.mr (.tail _ (.tail _ (.head _)))),k2.to m.keep cl.2.1 le (BM.mr (.tail _ (.tail _ (.tail _ (.head _))))),
   k3.to m.keep cl.2.2 le (BM.mr (.tail _ (.tail _ (.tail _ (.tail _ (.head _)))))),Oi,Oj,Ol⟩⟩,
  λ a o e=>(BM.HA e).elim (kg a o) gh,rfl,λ i a ao h=>cm h,gC,λ a h=>(nomatch h)⟩
theorem L8(m:Gf body G s c1 c2 c3 lf c' s')(R:RF F ct.aS G [dM] ⟨σ.loc,[.tab]⟩ s)(k1:mF G [dM] s c1 iv)(k2:mF G [dM] s c2 nn)(k3:mF G [dM] s c3 sc)(le:dG G G')(g:dG (G.plus s'.heap (I5 c1 c2 c3 lf c')) G')(M:RM G' [] [] s''.heap)
  (kp:∀a o,s'.heap.get? a=af o->s''.heap.get? a=af o) (gf:∀a o,G' a=af o->G.plus s'.heap (I5 c1 c2 c3 lf c') a=af o\/s'.heap.get? a=none) (gz:GZ s' s''):
  dG G (G'.less [c1,c2,c3])/\RF F ct.aS (G'.less [c1,c2,c3]) [dM] ⟨σ.loc,[.tab]⟩ s''/\Gc G' (G'.less [c1,c2,c3]):=by
 have adD:G dM=none:=R.rm.fr dM (.head _)
 have out:∀{a},a∈[c1,c2,c3]->G a=none:=λ h=>aJ (p:=λ a=>G a=none).mpr ⟨k1.g,aJ.mpr ⟨k2.g,aJ.mpr ⟨k3.g,λ aa h=>bt h bK⟩⟩⟩ _ h
 have cell:∀a∈[c1,c2,c3],∃o u,s'.heap.get? a=af o/\o.data= .cell (af u):=
  have c:∀{c a},mF G [dM] s c a->∃o u,s'.heap.get? c=af o/\o.data= .cell (af u):=λ k=>(k.kept m.keep).imp λ aa=> .imp λ aa=>gh
  aJ.mpr ⟨c k1,aJ.mpr ⟨c k2,aJ.mpr ⟨c k3,λ aa h=>bt h bK⟩⟩⟩
 have drop:Gc G' (G'.less [c1,c2,c3]):=λ a o e n=>BM.He (λ h=>(cell a h).elim λ o' w=>w.elim λ u w=>n (af u) (am ((M.kg a o e).symm.trans (kp a o' w.1))▸w.2)) e
 have of:∀a o,G'.less [c1,c2,c3] a=af o->G a=af o\/s.heap.get? a=none:=λ a o e=>have e:=BM.Hf e; (gf a o e.1).elim (λ q=>(BM.HA q).elim .inl λ q=>(bQ.mp q.1).elim (λ e=> .inr (e▸m.dead)) λ h=>(bQ.mp h).elim
  (λ e=>m.co.elim λ oc w=>w.elim λ fs w=>w.elim λ t w=>e.symm▸w.2.2.imp_left λ z=>z.trans (w.1.symm.trans (e▸q.2))) λ h=>bt h e.2)
  λ q=> .inr (none_of λ o' w=>(d5 (a=dM)).elim (λ z=>m.tab.elim λ aa y=>dh (z▸q) y.1) λ z=>dh q (m.keep a o' z w))
 have adB:G'.less [c1,c2,c3] dM=none:=none_of λ o e=>(of _ o e).elim (dh adD) λ q=>(R.rm.some_of (.head _)).elim λ aa=>dh q
 have YU:dG G (G'.less [c1,c2,c3]):=λ a o e=>BM.He (λ h=>dh (out h) e) (le a o e)
 refine⟨YU,R.HO (s':=s'') (mem':=[.tab]) (Ext.refl _) YU ⟨λ a o e=>M.kg a o (BM.Hf e).1,rfl,λ i a ao h h'=>?_,R.rm.nd,λ a ha=>(be.mp ha)▸adB⟩ (λ a h=> .inl h) of (λ a o n e=>kp a o (m.keep a o (λ q=>n (q▸ .head _)) e)) ((GZ.of ⟨m.z.1,m.z.1,m.z.2⟩).trans gz),drop⟩
 rcases i with _|i
 ·cases h
  cases h'
  exact m.tab.elim λ ps y=>m.co.elim λ oc w=>w.elim λ fs w=>w.elim λ t w=>⟨_,kp _ _ y.1,ps,rfl,y.2.1, .inr ⟨c',oc,fs,t,y.2.2,drop c' oc (g _ _ ((BM.mr (.tail _ (.head _))).trans w.1)) (λ v q=>nomatch w.2.1.1.symm.trans q),w.2.1⟩⟩
 ·exact cm h
theorem L9(O:gO P ct F)(R:RF F ct.aS G [dM] ⟨σ.loc,[.tab]⟩ s)(k1:mF G [dM] s c1 iv)(k2:mF G [dM] s c2 nn)(k3:mF G [dM] s c3 sc)(Oi:c1≠c2)(Oj:c1≠c3)(Ol:c2≠c3)(cl:(∀f,eA f iv=iv)/\(∀f,eA f nn=nn)/\∀f,eA f sc=sc)
  (m:Gf body G s c1 c2 c3 lf c' s') {ks:ae (ae Int)} {us:ae AV} (hi:tu us) {vs3:ae ak} (va:bJ G [dM] [sc,nn, .int 5] vs3) (H:WC (P.lam body lf iv nn sc) 68 [sc,nn, .int 5, .fn lf] [] λ v m=>v= .bG ks us/\m=[]) {Q:ak->ar->Prop}
  (k:∀v s'' G2,dG G G2->RF F ct.aS G2 [dM] ⟨σ.loc,[.tab]⟩ s''->VR G2 [dM] (.bG ks us) v->Q v s''):WP P F.A (call (.ref 68) (vs3++[.ref lf]) []) Q s':=by
 have kg:KG G s'.heap:=λ a o e=>m.keep a o (λ q=>dh (R.rm.fr dM (.head _)) (q▸e)) (R.rm.kg a o e)
 have le:=BM.Hz (l:=I5 c1 c2 c3 lf c') kg
 have I:=U8 (P:=P) m kg (R.ja O) k1 k2 k3 cl Oi Oj Ol
 refine X.calls (X.eu (H.run F.A _ [] s' _ O.room I.1 I.2 ((bJ.up le (Ext.refl _) _ (bJ.close (vs:=[sc,nn, .int 5]) (λ f=>show[eA f sc,eA f nn, .int 5]=_ from congr (ah m5 (cl.2.2 f)) (ah (·::[AV.int 5]) (cl.2.1 f))) va)).append (bJ.cons (m.lo.elim λ aa q=>q.elim λ aa q=>vR rfl ⟨_,_,(BM.mr (.head _)).trans q,rfl⟩) bJ.nil))) λ r s'' y=>?_)
 refine y.u (Q:=λ r s''=>match r with | .ok (.ret v)=>Q v s''|_=>False) λ v y=>?_
 rcases y with⟨G',ρ',av,mem',⟨g,x,R',vv,e1,e2⟩,kp,nw,gf,gz⟩
 cases cZ.mp (R'.len.trans (ah f4 e2))
 have B:=L8 (F:=F) (ct:=ct) (σ:=σ) m R k1 k2 k3 (le.trans g) g (e2▸R') (λ a o e=>kp a o bK e) gf gz
 exact k v s'' _ B.1 B.2.1 (VR.XV B.2.2 hi (e1▸vv))
theorem adh{ρ:ae au}{a:au}(l:ρ.length=1)(h:ρ[0]?=af a):ρ=[a]:=by
 obtain⟨x,rfl⟩:=DX.mp l
 exact ah (λ x=>[x]) (am h)
end
end
end
theorem Rm{v:ak}(h:ZZ v=true):∃s t,v= .str s t:=by
 rcases v
 case str=>exact⟨_,_,rfl⟩
 all_goals exact ay h
theorem G7{v:ak}(h:UU v=true):∃s t,v= .int s t:=by
 rcases v
 case int=>exact⟨_,_,rfl⟩
 all_goals exact ay h
theorem O_{v:ak}(h:XD v=true):∃b,v= .bool b:=by
 rcases v
 case bool=>exact⟨_,rfl⟩
 all_goals exact ay h
theorem Vm{a b:Nat}(h:(!aT a b)=true):a≠b:=pP (nb h)
theorem yQ{K:eJ}{h:Heap}(hK:K.In h)(c:kJ K=true):CodeHd h wq dM:=
 ge (aF c).2 λ o ho c=>PM (aF c).2 λ vs hv d=>ge d λ v hp d=>(lE (aF d).1).elim λ p e=>
  have hp:vs[11]?=af (.ref dM):=hp.trans (ah af (e.1.trans (ah du (aL e.2))))
  have d1:=aF (aF d).2
  have d2:=aF d1.2
  have d3:=aF d2.2
  (Rm d1.1).elim λ aa a=>a.elim λ aa a=>(G7 d2.1).elim λ aa b=>b.elim λ aa b=>(O_ d3.1).elim λ aa e=>(G7 d3.2).elim λ aa f=>f.elim λ aa f=>
   ⟨o,vs,_,_,_,_,_,_,_,hK _ _ ho,FV (aF c).1,hv,hp,Array.getD_eq_getD_getElem?.trans (ah (Option.getD · c_) hp),a,b,e,f,by decide⟩
theorem XC{K:eJ}{h:Heap}{mg:bI->aq ak}(hK:K.In h)(hg:h.Ns dk mg)(c:kJ K=true):h.BuiltinsAt mg dM:=
 ge (aF c).1 λ r hr c=>ge c λ v hv c=>(lE c).elim λ bm e=>ge e.2 λ o ho c=>
  have c1:=aF c
  have c2:=aF c1.2
  have c3:=aF c2.2
  have c4:=aF c3.2
  have c5:=aF c4.2
  ge c2.1 λ d hd q=>⟨bm,o,mg_of hK hg (hr.trans (ah af (hv.trans (ah af e.1)))),Vm c4.1,Vm c5.1,Vm c5.2,hK _ _ ho,FV c1.1,hd.trans (ah af (aL q)),Vy c3.1⟩
section
variable{P:cC}{ct:Ct}
def Qe(b:SE P GJ):aB:= .Lambda vB b.bA mI Ar
def eCh:SE P ct:=Ww "chosen_conditioning" (.fn 68) ⟨487,11,487,30⟩
def WH:SE P ct:=e8 2 ⟨487,31,487,35⟩
def eN:SE P ct:=e8 5 ⟨487,37,487,38⟩
def eMt:SE P ct:=Ww "MOST_TRIED" (.int 5) ⟨487,40,487,50⟩
theorem Pr{σ:St}{K:AV->St->Prop}(h:ldK (fE σ.loc 2) σ K):(WH (P:=P) (ct:=ct)).run σ K:=h
theorem Ue{σ:St}{K:AV->St->Prop}(h:ldK (fE σ.loc 5) σ K):(eN (P:=P) (ct:=ct)).run σ K:=h
noncomputable def tN(ct:Ct)(i:Nat)(x:bI):aC:=(ct.aS[i]?==af x)&&(ct.names.lookup x==af .cell)
theorem p_{env:Env}{n:bI}{c:au}{r:ae (bI×dJ)}{acc:ae (bI×au)}(h:env.cells.lookup n=af c):kI env ((n, .free)::r) acc=kI env r ((n,c)::acc):=by
 show kI env r (match env.cells.lookup n with|some c=>(n,c)::acc|none=>acc)=_
 rw[h]
theorem y_{env:Env}{c1 c2 c3:au}(l1:env.cells.lookup ("intervals":bI)=af c1)(l2:env.cells.lookup ("n":bI)=af c2)(l3:env.cells.lookup ("scan":bI)=af c3):Ee mI env=pure (uF c1 c2 c3):=
 (wm (aJ.mpr ⟨λ h=>(nomatch h),aJ.mpr ⟨λ aa=>⟨_,l1⟩,aJ.mpr ⟨λ aa=>⟨_,l2⟩,aJ.mpr ⟨λ aa=>⟨_,l3⟩,aJ.mpr ⟨λ h=>(nomatch h),aJ.mpr ⟨λ h=>(nomatch h),λ aa h=>bt h bK⟩⟩⟩⟩⟩⟩)).trans
  (ah pure ((show kI env mI.names []=kI env (("intervals", .free)::("n", .free)::("scan", .free)::[("data_size", .globalImplicit),("arith_writer", .globalImplicit)]) [] from rfl).trans ((p_ l1).trans ((p_ l2).trans (p_ l3)))))
section
variable{b:SE P GJ}{F:Fd}{G:BM}{l:ae AV}{s:ar}{c1 c2 c3:au}
theorem L_(O:gO P ct F)(R:RF F ct.aS G [dM] ⟨l,[.tab]⟩ s)(hq:ct.cq=true)(l1:F.env.cells.lookup ("intervals":bI)=af c1)(l2:F.env.cells.lookup ("n":bI)=af c2)(l3:F.env.cells.lookup ("scan":bI)=af c3)
  {Q:ak->ar->Prop} (h:∀lf c' s',Gf b.bA G s c1 c2 c3 lf c' s'->Q (.ref lf) s'):aH (aE P.prog P.w) F.A (eval (Qe b) F.env) Q dw s:=R.A1 O λ B p lo mg mb aa b2 b3=>by
 have q:=O.cq hq
 have hK:P.K.In s.heap:=R.K O
 have hg:=b2.g.keeps b3
 have C:=yQ hK q.2.2
 have hb:=XC hK hg q.2.2
 obtain⟨o,ho,ps,rfl,Yx,hc⟩:=R.rm.obj 0 dM .tab rfl rfl
 unfold Qe
 refine kla_eval rfl ?_
 rw[show F.env.qual++"<lambda>"=nk from ah (λ q:bI=>q++bT "<lambda>") q.2.1]
 rcases hc with hc|⟨c',oc,fs,t,hc,g1,g2⟩
 ·refine kla_makeFunction (y_ l1 l2 l3) O.glob hg q.1 C ho Yx hc (by decide) hb λ c' K2 h' tk hx hge IY aco LQ=>?_
  obtain⟨c₂,oc,fs,t,e2,Yv,hd⟩:=aco
  cases e2
  have hd0:s.heap.get? c'=none:=df hge
  exact h h'.objs.size c' _ ⟨df (aG hge (eZ IY)),⟨_,_,aN _ rfl⟩,λ b o n e=>aA _ (hx b o n e),⟨_,aA _ LQ,mu.symm▸TriplesOk_snoc _ _ _ _ Yx,mu.symm▸codeAmong_snoc _ Yx hc⟩,
   ⟨oc,fs,t,aA _ Yv,hd, .inr hd0⟩,λ q=>dh hd0 (q▸ho),rfl,rfl⟩
 ·exact kla_makeFunctionHit (y_ l1 l2 l3) O.glob hg q.1 C ho Yx hc hb λ K2 h' tk hk hsz=>h h'.objs.size c' _ ⟨df hsz,⟨_,_,aN _ rfl⟩,λ b o aa e=>aA _ (hk b o e),⟨ps,aA _ (hk _ _ ho),Yx,hc⟩,
   ⟨oc,fs,t,aA _ (hk _ _ (R.rm.kg _ _ g1)),g2, .inl g1⟩,λ q=>dh (R.rm.fr dM (.head _)) (q▸g1),rfl,rfl⟩
end
theorem SE.Kx(e:SE P ct)(c:e.ch=true){F:Fd}{G:BM}{ρ:ae au}{σ:St}{s:ar}(O:gO P ct F)(R:RF F ct.aS G ρ σ s){V:AV}(run:e.run σ λ a b8=>a=V/\b8=σ){Q:ak->ar->Prop}(k:∀G' ρ' v s',dG G G'->Ext ρ ρ'->RF F ct.aS G' ρ' σ s'->VR G' ρ' V v->Q v s'):
  cL P.j (aE P.prog P.w) F.A (eval e.bA F.env) Q s:=X.mono (e.ok c F G ρ σ s _ O R run) λ v s' z=>z.u λ G' ρ' a b8 g x R' va h=>k G' ρ' v s' g x (h.2▸R') (h.1▸va)
structure W9(P:cC)(b:SE P GJ)(σ:St)(ks:ae (ae Int))(us:ae AV)(sc nn iv:AV):Prop where
 l:fE σ.loc 2=sc/\fE σ.loc 5=nn/\fE σ.loc 4=iv
 u:sc≠ .undef/\nn≠ .undef/\iv≠ .undef
 cl:(∀f,eA f iv=iv)/\(∀f,eA f nn=nn)/\∀f,eA f sc=sc
 hi:tu us
 m:σ.mem=[.tab]
 H:∀lf,WC (P.lam b.bA lf iv nn sc) 68 [sc,nn, .int 5, .fn lf] [] λ v m=>v= .bG ks us/\m=[]
theorem Qg{b:SE P GJ}{σ:St}{ks:ae (ae Int)}{us:ae AV}{sc nn iv:AV}(L:W9 P b σ ks us sc nn iv)(c:(((eCh (P:=P) (ct:=ct)).ch&&((WH (P:=P) (ct:=ct)).ch&&((eN (P:=P) (ct:=ct)).ch&&(eMt (P:=P) (ct:=ct)).ch)))&&((tN ct 2 "scan"&&(tN ct 5 "n"&&tN ct 4 "intervals"))&&(ct.tb&&ct.cq)))=true)
  {F:Fd} {G:BM} {ρ:ae au} {s:ar} (O:gO P ct F) (R:RF F ct.aS G ρ σ s) {Q:ak->ar->Prop} (k:∀v s' G2 ρ2,dG G G2->Ext ρ ρ2->RF F ct.aS G2 ρ2 σ s'->VR G2 ρ2 (.bG ks us) v->Q v s'):
  cL P.j (aE P.prog P.w) F.A (eval (.Call (.Name "chosen_conditioning" ⟨487,11,487,30⟩) [(WH (P:=P) (ct:=ct)).bA,(eN (P:=P) (ct:=ct)).bA, .Name "MOST_TRIED" ⟨487,40,487,50⟩,Qe b] [] ⟨487,11,487,115⟩) F.env) Q s:=by
 have ca:=aF (aF c).1
 have ca2:=aF ca.2
 have ca3:=aF ca2.2
 have cb:=aF (aF c).2
 have m1:=aF cb.1
 have m2:=aF m1.2
 have e:=aF m1.1
 have e':=aF m2.1
 have e'':=aF m2.2
 have tq:=aF cb.2
 obtain⟨l,m⟩:=σ
 cases(show m=[.tab] from L.m)
 refine X.p4 ((eCh (P:=P) (ct:=ct)).Kx ca.1 O R (V:= .fn 68) ⟨rfl,rfl⟩ λ dW c8 u s₁ fQ fu dS va=>?_)
 obtain⟨rfl,o,fd,ho,hd⟩:=va
 refine X.uo (Pm:=λ h=>∃o fd,h.get? 68=af o/\o.data= .func fd) rfl Aq (X.lu rfl ((WH (P:=P) (ct:=ct)).Kx ca2.1 O dS (V:=sc) (Pr (L.l.1.symm▸As L.u.1 ⟨rfl,rfl⟩)) λ jr g8 w2 bp jk jw gP v2=>X.lu rfl ((eN (P:=P) (ct:=ct)).Kx ca3.1 O gP (V:=nn) (Ue (L.l.2.1.symm▸As L.u.2.1 ⟨rfl,rfl⟩)) λ rT lg w5 fY kM kS lI v5=>
  X.lu rfl ((eMt (P:=P) (ct:=ct)).Kx ca3.2 O lI (V:= .int 5) ⟨rfl,rfl⟩ λ Tz Oa w6 te CA DV pW v6=>?_))))
 have hρ:Oa=[dM]:=adh pW.rm.len (pW.ext.get (O.tb tq.1))
 subst hρ
 refine(zY O pW (a_.mp e''.1) (a_.mp e''.2) L.l.2.2 L.u.2.2).elim λ d1 k1=>(zY O pW (a_.mp e'.1) (a_.mp e'.2) L.l.2.1 L.u.2.1).elim λ d2 k2=>(zY O pW (a_.mp e.1) (a_.mp e.2) L.l.1 L.u.1).elim λ d3 k3=>?_
 have ne:∀{x y:bI} {c d:au},F.env.cells.lookup x=af c->F.env.cells.lookup y=af d->x≠y->c≠d:=λ ex ey n q=>n (pW.p9 _ _ _ ex (q▸ey))
 have g14:dG dW Tz:=jk.trans (kM.trans CA)
 exact X.lu rfl (X.any (L_ (b:=b) O pW tq.2 k1.1 k2.1 k3.1 λ lf c' s' m=>X.any (BC ⟨⟨o,fd,m.keep _ _ (by decide) (pW.rm.kg _ _ (g14 _ _ ho)),hd⟩,L9 (σ:=⟨l,[.tab]⟩) O pW k1.2 k2.2 k3.2 (ne k1.1 k2.1 (by decide)) (ne k1.1 k3.1 (by decide)) (ne k2.1 k3.1 (by decide)) L.cl m L.hi
  (.cons (v2.up (kM.trans CA) (kS.trans DV)) (.cons (v5.up CA DV) (.cons v6 .nil))) (L.H lf) λ v s'' G2 g Bi vv=>k v s'' G2 [dM] (fQ.trans (g14.trans g)) (fu.trans (jw.trans (kS.trans DV))) Bi vv⟩)))
def Q7(b:SE P GJ):SX P ct where
 bA:= .Return (af (.Call (.Name "chosen_conditioning" ⟨487,11,487,30⟩) [(WH (P:=P) (ct:=ct)).bA,(eN (P:=P) (ct:=ct)).bA, .Name "MOST_TRIED" ⟨487,40,487,50⟩,Qe b] [] ⟨487,11,487,115⟩)) ⟨487,4,487,115⟩
 run:=λ σ K=>∃sc nn iv ks us,W9 P b σ ks us sc nn iv/\K (.ret (.bG ks us)) σ
 ch:=((eCh (P:=P) (ct:=ct)).ch&&((WH (P:=P) (ct:=ct)).ch&&((eN (P:=P) (ct:=ct)).ch&&(eMt (P:=P) (ct:=ct)).ch)))&&((tN ct 2 "scan"&&(tN ct 5 "n"&&tN ct 4 "intervals"))&&(ct.tb&&ct.cq))
 ok:=λ c F G ρ σ s Kv O R h=>h.elim λ aa h=>h.elim λ aa h=>h.elim λ aa h=>h.elim λ ks h=>h.elim λ us h=>X.uk (Qg h.1 c O R λ v s' G2 ρ2 g x R' vv=>⟨G2,ρ2, .ret _,σ,g,x,R',⟨v,rfl,vv⟩,h.2⟩)
theorem pj.take{f:au}{dx:ae AV}{F:Fd}{G:BM}{ρ:ae au}{σ:St}{s:ar}{vs:ae ak}{Kv:AV->St->Prop}(O:gO P ct F)(ht:ct.tb=true)(R:RF F ct.aS G ρ σ s)(va:bJ G ρ dx vs)
  (h:pj P f dx σ.mem λ v m'=>Kv v ⟨σ.loc,m'⟩):WP P F.A (call (.ref f) vs []) (PE F ct.aS G ρ Kv) s:=
 X.calls (X.eu (h.run F.A G ρ s vs (R.ext.get (O.tb ht)) O.room (R.ja O) R.rm va) λ r s' z=>z.u (Q:=λ r s'=>match r with | .ok (.ret v)=>PE F ct.aS G ρ Kv v s'|_=>False) λ v z=>z.pe R)
noncomputable def Wr(f:SE P ct)(as:SL P ct)(p:c9):SE P ct where
 bA:= .Call f.bA as.bA [] p
 run:=λ σ K=>f.run σ λ fv aI=>Zn fv λ g=>as.run aI λ vs aW=>pj P g vs aW.mem λ v m'=>K v ⟨aW.loc,m'⟩
 ch:=isNm f.bA&&(ct.tb&&(f.ch&&as.ch))
 star:=λ aa aa=>rfl
 ok:=λ c F G ρ σ s Kv O R h=>have hf:=wX (aF c).1; have c:=(aF c).2; have ca:=aF (aF c).2
  zX f as hf ca.1 ca.2 O R h λ g vs us jr g8 aW bp le x gP q9 cW=>X.mono (pj.take O (aF c).1 gP q9 cW) λ aa aa z=>PE.up le x z
end
section
variable{prog:aK}{w:bw}{K:Type}[DecidableEq K]{knd:HeapKind prog w K}{A:bn}{E:ak->ar->Prop}{s:ar}
theorem U5{α β:Type}{l l':ae (α×β)}{i:Nat}{x y:α×β}(hk:l.map (·.1)=l'.map (·.1))(hx:l[i]?=af x)(hy:l'[i]?=af y):y.1=x.1:=
 am (((ah (ef Prod.fst) hy).symm.trans eT.symm).trans ((ah (λ l=>l[i]?) hk.symm).trans (eT.trans (ah (ef Prod.fst) hx))))
theorem Hd{α β:Type}{l l':ae (α×β)}(hk:l.map (·.1)=l'.map (·.1)):l.length=l'.length:=(bL _).symm.trans ((ah f4 hk).trans (bL _))
theorem FD{nm:cQ}{a b:au}{ka kb:ae (K×au×ak)}{Q:aC->ar->Prop}(hu:knd.room A)(ha:(a==di)=false)(hb:(b==di)=false)(da:s.heap.DictOfH knd a ka)(db:s.heap.DictOfH knd b kb)
  (hk:ka.map (·.1)=kb.map (·.1)) (hv:∀(j:Nat) x y,ka[j]?=af x->kb[j]?=af y->SeqAt.EqAt A s x.2.2 y.2.2 true) (h:Q true s):aH (aE prog w) A (Builtin.Dict.samePairs nm a b) Q E s:=by
 rcases da with⟨oa,es,ep,SB,_,hda,hea,hia,hna⟩
 rcases db with⟨ob,Bn,JW,hob,_,hdb,heb,hib,hnb⟩
 have hla:=size_of_entries hea
 have hsz:es.size=Bn.size:=hla.trans ((Hd hk).trans (size_of_entries heb).symm)
 unfold Builtin.Dict.samePairs Builtin.Dict.showsAll
 rw[ha,hb,bC aX]
 refine aj (aw (aj (aw (aj (ei SB hda ?_)))))
 refine aj (ei hob hdb ?_)
 rw[hsz,lS,bC aX,← hsz]
 refine aj (nK SB hda (aj ?_))
 rw[na]
 refine wpAny_forIn_list _ (λ rest q s'=>s'=s/\q=(none,())/\∃i n,rest=f0 i n/\i+n=es.size) _ ?_ ?_ _ _ ⟨rfl,rfl,0,es.size,ah (f0 0) ((Nat.div_one _).trans rfl),fB _⟩
 ·rintro x rest q s' ⟨rfl,rfl,i,n,hr,hi⟩
  cases n with
  |zero=>exact nomatch hr
  |succ n=>
   have e1:x=i:=Bt hr
   have e2:rest=f0 (i+1) n:=Bu hr
   subst e1 e2
   have l1:x < ka.length:=hla▸hi▸DY (uV n)
   have⟨X,hx⟩:∃X,ka[x]?=af X:=⟨_,d_ l1⟩
   have⟨Y,hy⟩:∃Y,kb[x]?=af Y:=⟨_,d_ (Hd hk▸l1)⟩
   have hy':kb[x]?=af (X.1,Y.2):=hy.trans (ah (λ k=>af (k,Y.2)) (U5 hk hx hy))
   refine aj (ei SB hda ?_)
   rw[(entry_at hea x).trans (ah (ef _) hx)]
   refine aj (bU (aj (wpAny_dictFind_heap hu (hia _ (dB hx)) hob hdb heb hib hnb (λ hn=>bt hy' (hn x _)) λ j p hj=>?_)))
   have ej:x=j:=idxH_unique hnb hy' hj
   subst ej
   refine aj (ei hob hdb ?_)
   rw[(entry_at heb x).trans (ah (ef _) hy)]
   refine bU (hv x _ _ hx hy prog w _ _ ?_)
   refine(?_:aH _ _ (if (!true)=true then _ else _) _ _ _)
   rw[iP,bC aX]
   refine aj (nK SB hda ?_)
   rw[lS,bC aX]
   exact aw ⟨rfl,rfl,x+1,n,rfl,(cV x 1 n).trans hi⟩
 ·rintro q s' ⟨rfl,rfl,_⟩
  exact aw h
theorem neH{a b:au}{ka kb:ae (K×au×ak)}{Q:ak->ar->Prop}(hu':knd.room A.in1)(ha:(a==di)=false)(hb:(b==di)=false)(da:s.heap.DictOfH knd a ka)(db:s.heap.DictOfH knd b kb)(hu:A.units < qQ)
  (hk:ka.map (·.1)=kb.map (·.1)) (hv:∀(j:Nat) x y,ka[j]?=af x->kb[j]?=af y->SeqAt.EqAt A.in1 s x.2.2 y.2.2 true) (h:Q (.bool false) s):aH (aE prog w) A (dz .NotEq (.ref a) (.ref b)) Q E s:=by
 refine wpAny_richCompare_same_room (op:= .NotEq) da.typeIs db.typeIs Bw (cA Bw da.typeIs PySem.F.entry_dict_ne ?_ (PySem.F.args_dict_ne_2 _ _)) hu
 show aH _ _ (Builtin.Dict.dictSlotArgs "__ne__" ⟨[.ref a, .ref b],[]⟩>>=_) _ _ s
 refine aj ?_
 unfold Builtin.Dict.dictSlotArgs
 refine aj (mv da.typeIs ?_)
 show aH _ _ (pure (du a,du b)) _ _ s
 refine aw ?_
 refine aj (eQ (T:="dict") db.typeIs PySem.F.sub_dict_dict ?_)
 rw[iP,bC aX]
 refine aj (aw (aj (aw ?_)))
 refine aj (FD hu' ha hb da db hk hv ?_)
 refine aw ⟨_,rfl,?_,?_⟩
 ·exact λ x=>nomatch x
 ·exact h
end
section
variable{P:cC}{ct:Ct}
def XK(a b:AV)(mem:ae AO)(K:aC->Prop):Prop:=md a mem λ ks us=>md b mem λ xO rB=>ks=xO/\us=rB/\tu us/\K false
theorem tu.get:∀{us:ae AV} {i:Nat} {v:AV},tu us->us[i]?=af v->∃k,v= .int k
 |v::r,0,_,h,e=>by cases e; exact h.1
 |v::r,i+1,_,h,e=>tu.get (us:=r) h.2 e
noncomputable def Z3(l r:SE P ct)(p:c9):ST P ct where
 bA:= .Compare l.bA [.NotEq] [r.bA] p
 run:=λ σ K=>l.run σ λ a aI=>r.run aI λ b aW=>XK a b aW.mem λ c=>K c aW
 ch:=vG 3 r.bA&&(l.ch&&r.ch)
 ok:=λ c F G ρ σ s Kv O R h=>have d:=(xt (aF c).1).2; have c:=(aF c).2; X.isTrue_Compare1 (d _) (SE.then l r (aF c).1 (aF c).2 O R h λ G' ρ' a b u v b8 s' g x R' va vb kk=>by
  obtain⟨d,o,xs,ks,us,rfl,ho,hc,ns,D,e1,e2,e3,kk⟩:=lK O R' va kk
  obtain⟨d',o',xs',xO,rB,rfl,E1,hc',Br,D',e1',e2',e3',rfl,rfl,hi,hk⟩:=lK O R' vb kk
  have room:(g9 (cE P.prog P.w)).room F.A.in1:=by show F.A.units+1 < qQ; have:=O.room.2.1; show _ < 9900; omega
  refine X.any (neH (knd:=g9 (cE P.prog P.w)) room (by simpa using ns) (by simpa using Br) D D' (by have:=O.room.2.1; show _ < 9900; omega) (e1.trans e1'.symm) (λ j x y hx hy=>?_) (X.any (pN ⟨G',ρ',b8,g,x,R',hk⟩)))
  have q1:(xs.map (·.2.2))[j]?=af x.2.2:=by rw[eT,hx]; rfl
  have q2:(xs'.map (·.2.2))[j]?=af y.2.2:=by rw[eT,hy]; rfl
  have hj:j < us.length:=by
   have:=(jo.mp q1).1
   rw[e2.length] at this; exact this
  obtain⟨z1,hz1,w1⟩:=e2.get (d_ hj)
  obtain⟨z2,hz2,w2⟩:=e2'.get (d_ hj)
  rw[q1] at hz1; cases hz1
  rw[q2] at hz2; cases hz2
  obtain⟨k,ek⟩:=hi.get (d_ hj)
  rw[ek] at w1 w2
  obtain⟨t,et⟩:=w1.MJ
  obtain⟨t',et'⟩:=w2.MJ
  rw[et,et']
  have:=SeqAt.EqAt.int_int (A:=F.A.in1) (s:=s') k t k t'
  simpa using this)
end
noncomputable def VZ(a b:aC):ae Nat:=aY a (aY b [0,1] [0]) (aY b [1] [])
def tS(led a b:aC):SetTable:={mask:=7,place:=(VZ a b).toArray,dummies:=#[],finger:=0,led:=led,moves:=0,plain:=true}
noncomputable def eS(a b:aC)(t u:kx):bD (Int×ak):=aY a (aY b #[(0, .int 0 t),(1, .int 1 u)] #[(0, .int 0 t)]) (aY b #[(1, .int 1 u)] #[])
def oS(led a b:aC)(t u:kx)(ep:Nat):Obj:={cls:= .type "set",dict:=none,data:= .set (eS a b t u) ep (tS led a b),slots:=#[]}
def SJ(led:aC)(h:Heap)(S:au)(a b:aC):Prop:=∃t u ep,h.get? S=af (oS led a b t u ep)
theorem lay0{led b:aC}{t u x:kx}:layNew (tS led false b) (eS false b t u) 0 (.int 0 x)=(eS true b x u,tS led true b,false,false):=by
 cases b<;>kernel_rfl
theorem acO{led a:aC}{t u x:kx}:layNew (tS led a false) (eS a false t u) 1 (.int 1 x)=(eS a true t x,tS led a true,false,false):=by
 cases a<;>kernel_rfl
theorem full{led a b:aC}:(tS led a b).tooFull=false:=by
 cases a<;>cases b<;>kernel_rfl
theorem szS{a b:aC}{t u:kx}:(eS a b t u).size<=2:=by
 cases a<;>cases b<;>exact aQ rfl
theorem wC{led a b:aC}{t u:kx}:(tS led a b).fits (eS a b t u).size=true:=by
 cases a<;>cases b<;>kernel_rfl
section
variable{prog:aK}{w:bw}{A:bn}{E:ak->ar->Prop}{s:ar}
theorem elS{a b:aC}{t u:kx}:ElemsOf (cE prog w) (eS a b t u).toList:=by
 intro e he
 have h:e=(0, .int 0 t)\/e=(1, .int 1 u):=by
  cases a<;>cases b<;>simp [eS] at he
  ·exact .inr he
  ·exact .inl he
  ·exact he
 rcases h with rfl|rfl
 ·exact⟨⟨0,vY _ _ _ _,rfl⟩,rfl⟩
 ·exact⟨⟨1,vY _ _ _ _,rfl⟩,rfl⟩
theorem Gm{S:au}{led a b a' b':aC}{t u t' u' x:kx}{v:Int}{ep:Nat}{Q:aC->ar->Prop}(ho:s.heap.get? S=af (oS led a b t u ep))
  (hf:(eS a b t u).toList.findIdx? (λ e=>(cE prog w).is v e.2)=none) (hl:layNew (tS led a b) (eS a b t u) v (.int v x)=(eS a' b' t' u',tS led a' b',false,false)) (hh:(cE prog w).hash v=v)
  (h:∀h',k7 S s.heap h'->h'.get? S=af (oS led a' b' t' u' (ep+1))->Q true {s with heap:=h'}):
  aH (aE prog w) A (rQ S (.int v x) ((cE prog w).hash v)) Q E s:=by
 unfold rQ setAddHashedIn
 refine bU (aj (lR ho rfl wC ?_))
 dsimp only
 rw[byScan_of (knd:=cE prog w) rfl (aU szS (by decide)) elS]
 simp only[↓zG]
 unfold setAddByScan
 refine aj ?_
 refine aj (mE ?_)
 refine aj (wpAny_setScan_of (vY _ _ _ _) ho rfl wC elS ?_)
 rw[hf]
 dsimp only
 rw[hh,hl]
 dsimp only
 refine aj (aw ?_)
 rw[show(tS led a' b').plain=true from rfl]
 simp only[↓zG]
 refine aj ?_
 rw[hashByValue_scannable 8 rfl]
 refine aw ?_
 rw[show plainKind (.int v x)=true from rfl]
 simp only[↓zG]
 refine aj (wpAny_storeSet_of ho rfl ?_ (aG szS (by rw[dZ]; decide)))
 rw[full]
 simp only[d9,tj,↓zG]
 refine aw ?_
 dsimp only
 refine aw (h _ (dF _ _ _) ?_)
 exact dK (Obj.putSet (eS a' b' t' u') (tS led a' b')) ho rfl
theorem zM{S:au}{led a b:aC}{t u x:kx}{v:Int}{ep i:Nat}{Q:aC->ar->Prop}(ho:s.heap.get? S=af (oS led a b t u ep))
  (hf:(eS a b t u).toList.findIdx? (λ e=>(cE prog w).is v e.2)=af i) (h:Q false s):
  aH (aE prog w) A (rQ S (.int v x) ((cE prog w).hash v)) Q E s:=by
 unfold rQ setAddHashedIn
 refine bU (aj (lR ho rfl wC ?_))
 dsimp only
 rw[byScan_of (knd:=cE prog w) rfl (aU szS (by decide)) elS]
 simp only[↓zG]
 unfold setAddByScan
 refine aj ?_
 refine aj (mE ?_)
 refine aj (wpAny_setScan_of (vY _ _ _ _) ho rfl wC elS ?_)
 rw[hf]
 dsimp only
 exact aw (aw h)
theorem Xk{S:au}{led a b:aC}{x:kx}{v:Int}{Q:aC->ar->Prop}(hv:v=0\/v=1)(hS:SJ led s.heap S a b)
  (h:∀r h',k7 S s.heap h'->SJ led h' S (a||v==0) (b||v==1)->Q r {s with heap:=h'}):
  aH (aE prog w) A (rQ S (.int v x) ((cE prog w).hash v)) Q E s:=by
 obtain⟨t,u,ep,ho⟩:=id hS
 rcases hv with rfl|rfl
 ·cases a with
  |true=>
   refine zM (i:=0) ho (by cases b<;>rfl) ?_
   have:=h false s.heap (qv _ _) (by cases b<;>exact hS)
   exact this
  |false=>
   refine Gm (a':=true) (b':=b) (t':=x) (u':=u) ho (by cases b<;>rfl) lay0 rfl λ h' sb e=>h true h' sb ?_
   cases b<;>exact⟨_,_,_,e⟩
 ·cases b with
  |true=>
   cases a with
   |true=>exact zM (i:=1) ho rfl (h false s.heap (qv _ _) hS)
   |false=>exact zM (i:=0) ho rfl (h false s.heap (qv _ _) hS)
  |false=>
   refine Gm (a':=a) (b':=true) (t':=t) (u':=x) ho (by cases a<;>rfl) acO rfl λ h' sb e=>h true h' sb ?_
   cases a<;>exact⟨_,_,_,e⟩
noncomputable def seen(val:Nat->Int)(k:Int):Nat->aC
 |0=>false
 |i+1=>seen val k i||val i==k
def SV(led:aC)(val:Nat->Int)(i:Nat)(h:Heap)(S:au):Prop:=SJ led h S (seen val 0 i) (seen val 1 i)
theorem Nu{R:iT->ar->Prop}{I:au}{fp wr:ae au}{G:bD d7->bD d7->Prop}{n:Nat}{P:Nat->ak->Prop}{St:Nat->ar->Prop}{led:aC}
  (W:WalksS prog w A.in1 I fp wr G n P St) (S:au) (hSf:S∉fp) (val:Nat->Int) (LR:∀i v,P i v->(val i=0\/val i=1)/\∃t,v= .int (val i) t):
  ∀(k i:Nat) (s:ar),n - i=k->i<=n->St i s->SV led val i s.heap S->
   (∀s',Moved (S::wr) G s s'->SV led val n s'.heap S->R (.ok (.ret .none)) s')->
   codeAny (aE prog w) A (.builtin "set.update.loop" ⟨[.ref S, .ref I],[]⟩) R s:=by
 have hSw:S∉wr:=λ h=>hSf (W.sub _ h)
 have Ak:∀b∈wr,b∈S::wr:=λ b hb=>aP _ hb
 intro k
 induction k with
 |zero=>
  intro i s hk hi hst hS hR
  have hin:i=n:=by omega
  subst hin
  refine k8 oF ?_
  rw[eC iN _]
  show aH _ A.in1 (gN (.ref I)>>=_) _ _ s
  refine aj (W.done s _ _ hst λ s' hm=>?_)
  show aH _ A.in1 (ret c_) _ _ s'
  exact aw (hR s' (hm.mono Ak) (by
   obtain⟨t,u,ep,ho⟩:=hS
   exact⟨t,u,ep,hm.heap S _ hSw ho⟩))
 |succ k ih=>
  intro i s hk hi hst hS hR
  have IY:i < n:=by omega
  refine k8 oF ?_
  rw[eC iN _]
  show aH _ A.in1 (gN (.ref I)>>=_) _ _ s
  refine aj (W.item i s _ _ IY hst λ v s' hP act hm=>?_)
  obtain⟨hv,t,rfl⟩:=LR i v hP
  have Yj:SV led val i s'.heap S:=by
   obtain⟨t,u,ep,ho⟩:=hS
   exact⟨t,u,ep,hm.heap S _ hSw ho⟩
  show aH _ A.in1 (holding [eD (val i) t] (setAdd S (.int (val i) t))>>=_) _ _ s'
  refine aj (bU ?_)
  unfold setAdd
  refine bU ?_
  refine aj ((cE prog w).pyHash (k:=val i) (vY _ _ _ _) ?_)
  refine Xk (s:={s' with toks:=s'.toks+1}) hv Yj λ r h' SC hS2=>?_
  refine aw ⟨kX iN _,ih (i+1) _ (by omega) IY (W.frame _ s' _ _ act (xK _) λ b hb o e=>?_) hS2 λ s'' acf ab3=>?_⟩
  ·rw[SC.2 b (λ h:b=S=>hSf (by rw[← h]; exact hb))]; exact e
  ·refine hR s'' (Moved.trans W.gtrans ((hm.mono Ak).then_heap (xK _) λ b o hb e=>?_) acf) ab3
   rw[SC.2 b (λ h:b=S=>hb (by rw[h]; exact aR))]; exact e
noncomputable def kZ(w:bw):aC:=!w.params.followText "set-order"
theorem Rd{a:ak}{Q₁:ak->ar->Prop}
  (h:Q₁ (.ref s.heap.objs.size) {s with heap:=s.heap.push {cls:= .type "set",dict:=none,data:= .set #[] 0 (.fresh 0 0 (kZ w))}}):
  codeAny (aE prog w) A (.call (.builtin "set.__new__") ⟨[.type "set",a],[]⟩) (wants Q₁ E) s:=by
 refine Bz ?_
 show aH _ A.in1 (do iz "set.__new__" ⟨[.type "set",a],[]⟩; qP (.builtin "set.__new__" ⟨[.type "set",a],[]⟩)) _ _ s
 refine aj (bu (PySem.F.newCall_set_1 a) (aw ⟨kX A9 _,k8 PySem.F.entry_set_new ?_⟩))
 rw[eC A9 _]
 unfold bV.«set.__new__» Builtin.Frozenset.newClass
 have Ak:=sub_set_self
 obtain⟨hp,g,d,tk,os⟩:=s
 dsimp only
 wp_walk
 refine iC (aw ?_)
 dsimp only
 simp only[newObj]
 refine aj (wpAny_alloc (aw ?_))
 exact aw h
theorem FH{S l:au}{items:bD ak}{val:Nat->Int}{R:iT->ar->Prop}(hh:A.handled=none)(hS:s.heap.get? S=af (oS (kZ w) false false default default 0))(hl:s.heap.IsList l items)
  (hlS:l < S) (LR:∀(i:Nat) (v:ak),items[i]?=af v->(val i=0\/val i=1)/\∃t,v= .int (val i) t)
  (h:∀h' tk,SV (kZ w) val items.size h' S->(∀b o,b≠S->s.heap.get? b=af o->h'.get? b=af o)->R (.ok (.ret .none)) {s with heap:=h',toks:=tk}):
  aH (aE prog w) A.in1 (bV.«set.__init__» ⟨[.ref S, .ref l],[]⟩) (λ fin s'=>match fin with | .done f=>R (.ok f) s' | .again c'=>c'.quiet=true/\codeAny (aE prog w) A c' R s') (λ e s'=>R (.error e) s') s:=by
 obtain⟨ol,hol,hcl,nl,hdl⟩:=id hl
 have hT:s.TypeIs (.ref S) "set":=⟨_,hS,rfl⟩
 have hTl:s.TypeIs (.ref l) "list":=⟨_,hol,hcl⟩
 have Ak:=rI.sub
 have agC:=PySem.F.sub_list_set
 have agB:=PySem.F.sub_list_frozenset
 have IZ:(cS "list"==cS "dict")=false:=by decide
 unfold bV.«set.__init__» noKeywords Builtin.Frozenset.updateFrom
 generalize hPI:iB=PI
 wp_walk
 subst hPI
 refine xX hl (aj (wpAny_runValue ?_))
 have hSs:S < s.heap.objs.size:=b9 hS
 refine Nu (led:=kZ w) ((Walks.list (show A.in1.in1.handled=none from hh) _ l (dO (b_ hlS hSs)) items).toS) S (λ m=>(bQ.mp m).elim (dO hSs) λ m=>uU hlS (be.mp m))
  val LR items.size 0 _ (Nat.sub_zero _) (oE _) ⟨⟨_,aN _ rfl,rfl,rfl⟩,hl.push _⟩ ⟨default,default,0,aA _ hS⟩ λ s' hm Yj=>?_
 obtain⟨h',g',d',tk',os'⟩:=s'
 obtain rfl:g'=s.gens:=hm.gens
 obtain rfl:d'=s.drawn:=hm.drawn
 obtain rfl:os'=s.os:=hm.os
 refine aw ?_
 show aH _ _ (ret c_) _ _ _
 exact aw (h h' tk' Yj λ b o n e=>hm.heap b o (λ m=>(bQ.mp m).elim n λ m=>dO (b9 e) (be.mp m)) (aA _ e))
theorem EH{l:au}{items:bD ak}{val:Nat->Int}{Q:ak->ar->Prop}
  (hh:A.handled=none) (hl:s.heap.IsList l items) (LR:∀(i:Nat) (v:ak),items[i]?=af v->(val i=0\/val i=1)/\∃t,v= .int (val i) t)
  (h:∀(h':Heap) (tk:Nat),SV (kZ w) val items.size h' s.heap.objs.size->
   (∀b o,s.heap.get? b=af o->h'.get? b=af o)->Q (.ref s.heap.objs.size) {s with heap:=h',toks:=tk}):
  aH (aE prog w) A (call (.type "set") [.ref l]) Q dw s:=by
 refine X.back (X.yM (Q₁:=λ obj s₁=>obj= .ref s.heap.objs.size/\s₁={s with heap:=s.heap.push (oS (kZ w) false false default default 0)}) rI (PySem.F.typeCall_set_1 (.ref l)) (λ A'=>Rd ⟨rfl,rfl⟩) λ obj s₁ z=>?_)
 obtain⟨rfl,rfl⟩:=z
 have hS:(s.heap.push (oS (kZ w) false false default default 0)).get? s.heap.objs.size=af (oS (kZ w) false false default default 0):=aN _ rfl
 obtain⟨ol,hol,hl2⟩:=hl
 refine⟨⟨_,hS,rfl⟩,X.any (vZ (codeAny_call_builtin rI.init.plain PySem.F.entry_set_init (check_set_init_1 ⟨_,hS,rfl⟩ ?_)))⟩
 refine FH (A:=A.in1) (R:=λ r s'=>match r with | .ok (.ret v)=>v= .none/\Q (.ref s.heap.objs.size) s' | .ok _=>False | .error e=>False) hh hS ⟨ol,aA _ hol,hl2⟩ (b9 hol) LR λ h' tk Yj hk=>?_
 exact⟨rfl,h h' tk Yj λ b o e=>hk b o (dO (b9 e)) (aA _ e)⟩
end
theorem wy:fC table "set.__iter__"=af bV.«frozenset.__iter__»:=
 Ef (id':="frozenset.__iter__") (by kernel_rfl) rfl (by decide+kernel) (by kernel_rfl)
theorem yh:fC table "set_iterator.__iter__"=af bV.«dict_keyiterator.__iter__»:=
 Ef (id':="dict_keyiterator.__iter__") (by kernel_rfl) rfl (by decide+kernel) (by kernel_rfl)
theorem rh:fC table "set_iterator.__next__"=af bV.«set_iterator.__next__»:=eP (by kernel_rfl)
theorem i7:Bx "set_iterator" "__next__" "set_iterator.__next__":=
 .of (owner:="set_iterator") (n:="__next__") (by rw[bF,a4]; kernel_rfl) (by decide+kernel) (by decide+kernel) (by decide+kernel)
  (by first|exact .inl (by decide+kernel)|exact .inr (by decide+kernel)) (by rw[cj]; kernel_rfl)
theorem td:Bx "set_iterator" "__iter__" "set_iterator.__iter__":=
 .of (owner:="set_iterator") (n:="__iter__") (by rw[bF,a4]; kernel_rfl) (by decide+kernel) (by decide+kernel) (by decide+kernel)
  (by first|exact .inl (by decide+kernel)|exact .inr (by decide+kernel)) (by rw[cj]; kernel_rfl)
theorem Di:Manifest.owners.lookup (String.ofList ['r','o','t','a','r','e','t','i','_','t','e','s'].reverse)=af Manifest.sig_set_iterator:=by kernel_rfl
theorem sA(a:ak):hW "set_iterator.__next__" ⟨[a],[]⟩:=by
 unfold hW; rw[signature?_of (id:="set_iterator.__next__") (n:=['_','_','t','x','e','n','_','_']) (o:=['r','o','t','a','r','e','t','i','_','t','e','s']) (by kernel_rfl) Di]; kernel_rfl
theorem zQ(a:ak):hW "set_iterator.__iter__" ⟨[a],[]⟩:=by
 unfold hW; rw[signature?_of (id:="set_iterator.__iter__") (n:=['_','_','r','e','t','i','_','_']) (o:=['r','o','t','a','r','e','t','i','_','t','e','s']) (by kernel_rfl) Di]; kernel_rfl
def WV(led a b:aC)(i:Nat):Nat:=aY led ((0::(VZ a b).map (·+1)).getD i 0) 0
def vd(w:bw)(S:au)(a b:aC)(t u:kx)(ep:Nat):bD (Int×ak):=aY (kZ w) (eS a b t u) (pickOrder (w.params.setOrder S ep) (eS a b t u))
def NH(a b:aC):Nat:=(VZ a b).length
theorem AX{a b:aC}{t u:kx}:(eS a b t u).size=NH a b:=by cases a<;>cases b<;>rfl
def J6(led:aC)(h:Heap)(I S:au)(a b:aC)(ep i:Nat):Prop:=∃o,h.get? I=af o/\o.cls= .type "set_iterator"/\o.data= .fields #[.int (WV led a b i:Int) 0, .int i 0, .ref S, .int (NH a b:Int) 0, .int ep 0]
section
variable{prog:aK}{w:bw}{A:bn}{E:ak->ar->Prop}{s:ar}
theorem xq(nm:cQ)(v:ak):slotArgs nm 0 ⟨[v],[]⟩=pure (v,[]):=rfl
theorem I8{S:au}{led a b:aC}{t u:kx}{ep:Nat}{Q:aC->ar->Prop}(ho:s.heap.get? S=af (oS led a b t u ep))(h:Q false s):aH (aE prog w) A (setDrawn S) Q E s:=by
 unfold setDrawn setsByText
 refine aj (lR ho rfl wC ?_)
 refine aj (aj (iC (aw ?_)))
 refine aw ?_
 have e:∀x:aC,(x&&false)=false:=λ x=>d9 x
 show Q (!_&&false) s
 rw[e]
 exact h
theorem L3{S:au}{led a b:aC}{t u:kx}{ep:Nat}{Q:ak->ar->Prop}(ho:s.heap.get? S=af (oS led a b t u ep))
  (hQ:Q (.ref s.heap.objs.size) {s with heap:=s.heap.push {cls:= .type "set_iterator",data:= .fields #[.int 0 0, .int 0 0, .ref S, .int (NH a b:Int) 0, .int ep 0]}}):
  aH (aE prog w) A (iB (.ref S)) Q E s:=by
 have hT:s.TypeIs (.ref S) "set":=⟨_,ho,rfl⟩
 refine xY hT A_ (cA A_ hT wy ?_ (PySem.F.args_set_iter_1 _))
 unfold bV.«frozenset.__iter__» Builtin.Frozenset.slot0
 refine aj (aj (bu (xq _ _) (bu (a:=S) rfl (aj ?_))))
 unfold Builtin.Frozenset.sizeOf
 refine aj (uX ho rfl wC (aw ?_))
 refine aj (I8 ho ?_)
 rw[bC aX]
 refine aj (aw ?_)
 refine aj (wpAny_setEpoch_of ho rfl wC ?_)
 refine aj (cP (aw ⟨_,rfl,"set_iterator",_,⟨_,aN _ rfl,rfl⟩,i7.lookup,?_⟩))
 exact(ah (λ n:Nat=>Q (.ref s.heap.objs.size) {s with heap:=s.heap.push {cls:= .type "set_iterator",data:= .fields #[.int 0 0, .int 0 0, .ref S, .int (n:Int) 0, .int ep 0]}}) AX).mpr hQ
theorem zu{S:au}{a b:aC}{t u:kx}{ep i:Nat}{Q:aq (ak×Nat)->ar->Prop}(hi:i<=NH a b)(ho:s.heap.get? S=af (oS (kZ w) a b t u ep))
  (h:Q (((vd w S a b t u ep)[i]?).map λ e=>(e.2,WV (kZ w) a b (i+1))) s):aH (aE prog w) A (setNext S (WV (kZ w) a b i) i ep) Q E s:=by
 unfold vd kZ at h
 unfold kZ at ho ⊢
 unfold setNext setsByText
 refine aj (lR ho rfl wC ?_)
 refine aj (aj (iC (aw ?_)))
 dsimp only
 cases hb:w.params.followText "set-order" with
 |true=>
  rw[hb] at h ho
  rw[show(aE prog w).w.params.followText "set-order"=true from hb]
  rw[dq rfl,lS,bC aX]
  refine aj ?_
  unfold setWalk setsByText
  refine aj (lR ho rfl wC ?_)
  refine aj (aj (iC (aw ?_)))
  dsimp only
  rw[show(aE prog w).w.params.followText "set-order"=true from hb]
  rw[dq rfl]
  refine aj (iC (aw ?_))
  exact aw h
 |false=>
  rw[hb] at h ho
  rw[show(aE prog w).w.params.followText "set-order"=false from hb]
  rw[bC aX]
  refine BB (λ Yk=>bt (show(false&&_)=true from Yk) (by rw[Bool.false_and]; exact aX)) (λ aa=>?_)
  refine aj (bu (a:=()) rfl ?_)
  refine aw ?_
  have h2:NH a b<=2:=by cases a<;>cases b<;>decide
  have Yr:i=0\/i=1\/i=2:=by omega
  rcases Yr with rfl|rfl|rfl<;>cases a<;>cases b<;>first|exact h|exact bt hi (by decide)
theorem next_item{I S:au}{a b:aC}{t u:kx}{ep i:Nat}{e:Int×ak}{Q:aq ak->ar->Prop}(hI:J6 (kZ w) s.heap I S a b ep i)(hi:i<=NH a b)(ho:s.heap.get? S=af (oS (kZ w) a b t u ep))(he:(vd w S a b t u ep)[i]?=af e)
  (hQ:∀h',J6 (kZ w) h' I S a b ep (i+1)->vU I s.heap h'->Q (af e.2) {s with heap:=h'}):aH (aE prog w) A (gN (.ref I)) Q E s:=by
 obtain⟨o,h1,h2,h3⟩:=hI
 have hT:s.TypeIs (.ref I) "set_iterator":=⟨o,h1,h2⟩
 unfold gN
 refine aj (kY (de (name:=bT "__next__") hT i7
  (cA i7 hT rh ?_ (sA _))))
 unfold bV.«set_iterator.__next__»
 refine aj (bu (xq _ _) ?_)
 refine aj (Ej h1 h3 ?_)
 dsimp only
 refine aj (uX ho rfl wC ?_)
 rw[AX,lS,bC aX]
 refine aj (zu (ep:=ep) (i:=i) hi ho ?_)
 rw[he]
 dsimp only[ef]
 refine aj (oM h1 h3 (show _ < 5 from by decide) ?_)
 have g1:(s.heap.update I (Obj.mapFields (·.setIfInBounds 0 (nJ ↑(WV (kZ w) a b (i+1)))))).get? I=af (Obj.mapFields (·.setIfInBounds 0 (nJ ↑(WV (kZ w) a b (i+1)))) o):=dK _ h1 (Obj.isFreed_of_fields (Obj.data_mapFields h3 _))
 refine aj (oM (s:={s with heap:=s.heap.update I (Obj.mapFields (·.setIfInBounds 0 (nJ ↑(WV (kZ w) a b (i+1)))))}) g1 (Obj.data_mapFields h3 _) (by simp) ?_)
 refine aw ⟨_,rfl,aw (hQ _ ⟨_,dK _ g1 (Obj.isFreed_of_fields (Obj.data_mapFields (Obj.data_mapFields h3 _) _)),(Obj.cls_mapFields ..).trans ((Obj.cls_mapFields ..).trans h2),?_⟩ ?_)⟩
 ·rw[Obj.data_mapFields (Obj.data_mapFields h3 _)]; rfl
 ·exact λ b' o' hb' e'=>((dF ..).trans (dF ..)).extBut b' o' hb' e'
theorem Rc{I S:au}{a b:aC}{t u:kx}{ep i:Nat}{Q:aq ak->ar->Prop}(hh:A.handled=none)(hI:J6 (kZ w) s.heap I S a b ep i)(hi:i<=NH a b)(ho:s.heap.get? S=af (oS (kZ w) a b t u ep))(he:(vd w S a b t u ep)[i]?=none)
  (hQ:∀h',vU I s.heap h'->Q none {s with heap:=h'}):aH (aE prog w) A (gN (.ref I)) Q E s:=by
 obtain⟨o,h1,h2,h3⟩:=hI
 have hT:s.TypeIs (.ref I) "set_iterator":=⟨o,h1,h2⟩
 unfold gN
 refine aj (kY (de (name:=bT "__next__") hT i7
  (cA i7 hT rh ?_ (sA _))))
 unfold bV.«set_iterator.__next__»
 refine aj (bu (xq _ _) ?_)
 refine aj (Ej h1 h3 ?_)
 dsimp only
 refine aj (uX ho rfl wC ?_)
 rw[AX,lS,bC aX]
 refine aj (zu (ep:=ep) (i:=i) hi ho ?_)
 rw[he]
 dsimp only[ef]
 refine aj (oM h1 h3 (show _ < 5 from by decide) ?_)
 show aH _ _ (Eh (.type "StopIteration") []>>=_) _ _ _
 refine aj ?_
 unfold Eh newTuple
 refine aj (cP ?_ (by size_fits))
 refine aj (m:=jJ _ _) (bu (a:=c_) (by first|rfl|(simp only[jJ]; rfl)) ?_)
 refine cP ?_ (by size_fits)
 unfold raiseNew
 refine aj (wpAny_handled ?_)
 rw[show A.in1.handled=none from hh]
 refine aj (aw (wpAny_throw ?_))
 refine aj (eQ (T:="StopIteration") (b:=true) ⟨_,aN _ rfl,rfl⟩ Eg ?_)
 exact aw (hQ _ (((dF ..).extBut.push _).push _))
theorem Nk{I S:au}{a b:aC}{ep i:Nat}{led:aC}{Q:ak->ar->Prop}(hI:J6 led s.heap I S a b ep i)(h:Q (.ref I) s):aH (aE prog w) A (iB (.ref I)) Q E s:=by
 obtain⟨o,h1,h2,h3⟩:=hI
 have hT:s.TypeIs (.ref I) "set_iterator":=⟨o,h1,h2⟩
 refine xY hT td (cA td hT yh ?_ (zQ _))
 show aH _ _ (ret (.ref I)) _ _ s
 exact aw ⟨_,rfl,"set_iterator",_,hT,i7.lookup,h⟩
theorem Sw{α:Type}{f:Nat->Nat}{n k j:Nat}{l:ae α}{out:bD α}(e:f k % l.length=j):rO f (n+1) k l out=match l[j]? with|some x=>rO f n (k+1) (l.eraseIdx j) (out.push x)|none=>out:=
 ah (λ j=>match l[j]? with|some x=>rO f n (k+1) (l.eraseIdx j) (out.push x)|none=>out) e
theorem Ai{α:Type}(f:Nat->Nat)(k:Nat)(x:α)(out:bD α):rO f 1 k [x] out=out.push x:=Sw (l:=[x]) (Nat.mod_one _)
theorem w0(S:au)(a b:aC)(t u:kx)(ep:Nat):(vd w S a b t u ep).toList.Perm (eS a b t u).toList:=by
 unfold vd
 cases kZ w with
 |true=>exact .refl _
 |false=>
  show(pickOrder (w.params.setOrder S ep) (eS a b t u)).toList.Perm _
  generalize w.params.setOrder S ep=f
  cases a<;>cases b
  ·exact .refl _
  ·exact .of_eq (ah px (Ai f 0 ((1:Int),eD 1 u) #[]))
  ·exact .of_eq (ah px (Ai f 0 ((0:Int),eD 0 t) #[]))
  ·have z {j:Nat} (e:f 0 % 2=j):=ah px (Sw (n:=1) (l:=[((0:Int),eD 0 t),((1:Int),eD 1 u)]) (out:=#[]) e)
   exact(Nat.mod_two_eq_zero_or_one (f 0)).elim (λ e=> .of_eq ((z e).trans (ah px (Ai f 1 _ _)))) λ e=>(List.Perm.of_eq ((z e).trans (ah px (Ai f 1 _ _)))).trans (.swap _ _ _)
end
section
variable{prog:aK}{w:bw}{A:bn}{E:ak->ar->Prop}{s:ar}
theorem vI{S:au}{a b:aC}{t u:kx}{ep:Nat}:(vd w S a b t u ep).size=NH a b:=by
 rw[← AX (t:=t) (u:=u),← bh,(w0 S a b t u ep).length_eq,bh]
theorem LM{S:au}{led a b:aC}{t u:kx}{ep:Nat}{Q:aC->ar->Prop}(ho:s.heap.get? S=af (oS led a b t u ep))(h:Q false s):aH (aE prog w) A (Builtin.List.listLengthHint (.ref S)) Q E s:=by
 have hT:s.TypeIs (.ref S) "set":=⟨_,ho,rfl⟩
 unfold Builtin.List.listLengthHint
 refine aj (cX hT PySem.F.slot_set_len.lookup ?_)
 generalize WN:("set.__len__":cQ)=id0
 wp_delta
 rw[show splitId id0=af ("set","__len__") from by subst WN; decide+kernel]
 subst WN
 refine aj (eQ (T:="set") (b:=true) hT (by rw[cj]; kernel_rfl) ?_)
 refine BB (λ Yk=>bt Yk (by decide)) (λ aa=>?_)
 refine BB (λ aa=>?_) (λ Yk=>bt (by decide+kernel) Yk)
 refine aj (j8 hT ?_)
 exact aw h
theorem Rk{S:au}{a b:aC}{t u:kx}{ep:Nat}:KdlSrc prog w "set" S S (NH a b) (λ i v=>∃e,(vd w S a b t u ep)[i]?=af e/\v=e.2) (λ h=>h.get? S=af (oS (kZ w) a b t u ep)) where
 type:=λ aa hm=>⟨_,hm,rfl⟩
 there:=λ aa hm=>⟨b9 hm,b9 hm⟩
 keep:=λ aa aa hm hk=>hk S (.inl rfl) _ hm
 notList:=by decide
 notTuple:=by decide
 hint:=λ aa aa aa aa hm hq=>LM hm hq
 iter:=λ A s hh hm=>⟨_,λ i h=>J6 (kZ w) h s.heap.objs.size S a b ep i/\h.get? S=af (oS (kZ w) a b t u ep)/\i<=NH a b,(λ aa aa hq=>L3 hm hq),{
   sub:=λ b hb=>by simp at hb; simp [hb]
   frame:=λ i h h' st hk=>⟨let ⟨o,x,y⟩:=st.1; ⟨o,hk _ (by simp) o x,y⟩,hk S (by simp) _ st.2.1,st.2.2⟩
   item:=λ i s' Q E hi st hQ=>by
    have IZ:S≠s.heap.objs.size:=dO (b9 hm)
    have IY:i < (vd w S a b t u ep).size:=by rw[vI]; exact hi
    refine next_item st.1 st.2.2 st.2.1 (e9 IY) λ h' hI hx=>?_
    exact hQ _ h' s'.toks ⟨_,e9 IY,rfl⟩ ⟨hI,hx S _ IZ st.2.1,hi⟩ λ b o hb e=>hx b o (λ h=>hb (by simp [h])) e
   done:=λ s' Q E st hQ=>Rc hh st.1 st.2.2 st.2.1 (Bs (by rw[vI]; exact cF _)) λ h' he'=>hQ h' s'.toks λ b o hb e=>he' b o (λ h=>hb (by simp [h])) e
   self:=λ aa aa aa aa st hQ=>Nk st.1 hQ},
  ⟨⟨_,aN _ rfl,rfl,by cases kZ w<;>rfl⟩,aA _ hm,oE _⟩⟩
noncomputable def Js(a b:aC):ae Int:=aY a (aY b [0,1] [0]) (aY b [1] [])
theorem Ui{a b:aC}{t u:kx}:(eS a b t u).toList.map (·.1)=Js a b:=by cases a<;>cases b<;>rfl
theorem Uj{a b:aC}{t u:kx}{e:Int×ak}(h:e∈(eS a b t u).toList):∃x,e.2= .int e.1 x:=by
 have h:e=(0, .int 0 t)\/e=(1, .int 1 u):=by
  cases a<;>cases b<;>simp [eS] at h
  ·exact .inr h
  ·exact .inl h
  ·exact h
 rcases h with rfl|rfl<;>exact⟨_,rfl⟩
theorem ints_of:∀{l:ae (Int×ak)} {vs:ae ak},(∀e∈l,∃x,e.2=eD e.1 x)->vs.length=l.length->(∀(j:Nat) (v:ak),vs[j]?=af v->∃e,l[j]?=af e/\v=e.2)->cx (l.map (·.1)) vs
 |[],vs,_,h,_=>cZ.mp h
 |e::r,[],_,h,_=>by cases h
 |e::r,v::vs,hl,h,k=>by
  obtain⟨e',q,rfl⟩:=k 0 v rfl
  cases q
  obtain⟨x,hx⟩:=hl e aR
  exact⟨x,vs,by rw[hx],ints_of (λ e h=>hl e (aP _ h)) (by simpa using h) λ j v h=>k (j+1) v (by simpa using h)⟩
theorem u5{S:au}{a b:aC}{t u:kx}{ep:Nat}{Q:ak->ar->Prop}(hh:A.handled=none)(ho:s.heap.get? S=af (oS (kZ w) a b t u ep))
  (h:∀h' tk vs (o:au) (n:Nat),cx (Js a b) vs->s.heap.get? o=none->h'.get? o=af {cls:= .type "list",dict:=none,data:= .seq vs.toArray n,slots:=#[]}->(∀b x,s.heap.get? b=af x->h'.get? b=af x)->Q (.ref o) {s with heap:=h',toks:=tk}):
  aH (aE prog w) A (call (.builtin "sorted") [.ref S]) Q E s:=by
 refine nF kind_sorted plain_sorted entry_sorted (args_sorted1 _) ?_
 unfold bV.«sorted»
 refine aj (m:=checkCount "sorted" 1 1 _) (aw ?_)
 have hz:NH a b<=2:=by cases a<;>cases b<;>decide
 refine aj (kdu_collect (A:=A.in1) (Rk (a:=a) (b:=b) (t:=t) (u:=u) (ep:=ep)) hh ho (by rw[dZ]; omega) λ h' tk acc hk LC=>?_)
 have hl:acc.toList.length=(vd w S a b t u ep).toList.length:=by rw[bh,bh,vI]; exact LC.1
 have hl2:acc.toList.length<=2:=by rw[hl,bh,vI]; exact hz
 refine aj (wpAny_newList ?_ (by rw[dZ]; omega))
 have hI:cx ((vd w S a b t u ep).toList.map (·.1)) acc.toList:=ints_of (λ e he=>Uj ((w0 S a b t u ep).mem_iff.mp he)) hl λ j v e=>by
  obtain⟨e',q,z⟩:=LC.2 j v (by rw[← bP]; exact e)
  exact⟨e',by rw[bP]; exact q,z⟩
 have hP:((vd w S a b t u ep).toList.map (·.1)).Perm (Js a b):=by
  have:=(w0 (w:=w) S a b t u ep).map (·.1)
  rwa [Ui] at this
 have JY:(h'.push (seqObj "list" acc.toList.toArray 0)).get? h'.objs.size=af (seqObj "list" acc.toList.toArray 0):=aN _ rfl
 have LI:s.heap.get? h'.objs.size=none:=by
  cases e:s.heap.get? h'.objs.size with
  |none=>rfl
  |some o=>exact bt (b9 (hk _ _ e)) (fA _)
 refine aj (bU (cA slot_list_sort ⟨_,JY,rfl⟩ entry_list_sort (list_sort_tree JY hI.ints (by omega) λ out Br a1 a2 a3=>⟨_,rfl,?_⟩) (args_list_sort _)))
 obtain⟨n,hn⟩:=sortedHeap_at (vs:=acc.toList) (out:=out) JY
 have e2:Br=Js a b:=by
  rw[PySem.W.eq_sortI (a2.trans hP) a3]
  cases a<;>cases b<;>decide
 refine aw ⟨_,rfl,h _ tk out.toList h'.objs.size n (by rw[← e2]; exact cx.Hr a1) LI (by rw[D8]; exact hn) λ b x q=>?_⟩
 have hb:=b9 (hk _ _ q)
 rw[sortedHeap_old (dO hb) (by rw[size_push']; exact Nat.lt_succ_of_lt hb)]
 exact aA _ (hk _ _ q)
end
theorem cx.at:∀{ns:ae Int} {vs:ae ak},cx ns vs->∀(i:Nat) (v:ak),vs[i]?=af v->ns[i]?=af (ns.getD i 0)/\∃t,v= .int (ns.getD i 0) t
 |[],vs=>λ h=>h.u0 (Q:=λ vs=>∀(i:Nat) (v:ak),vs[i]?=af v->([]:ae Int)[i]?=af (([]:ae Int).getD i 0)/\∃t,v= .int (([]:ae Int).getD i 0) t) λ aa aa e=>cm e
 |n::r,vs=>λ h=>h.uc (Q:=λ vs=>∀(i:Nat) (v:ak),vs[i]?=af v->(n::r)[i]?=af ((n::r).getD i 0)/\∃t,v= .int ((n::r).getD i 0) t) λ t us h i v=>match i with
  |0=>λ q=>⟨rfl,t,(am q).symm⟩
  |i+1=>cx.at h i v
section
variable{P:cC}{ct:Ct}
noncomputable def zo(ns:ae Int):aC:=ns.all λ v=>decide (v=0)||decide (v=1)
def lM(ns:ae Int):ae Int:=Js (seen (λ i=>ns.getD i 0) 0 ns.length) (seen (λ i=>ns.getD i 0) 1 ns.length)
def onRow(a:AV)(K:ae Int->Prop):Prop:=match a with
 | .row ns=>K ns
 |_=>False
theorem onRow.u{a:AV}{K:ae Int->Prop}{Q:AV->Prop}(h:onRow a K)(k:∀ns,K ns->Q (.row ns)):Q a:=by
 rcases a with _|_|_|_|_|_|_|_|_|_|_|_|ns|_|_|_|_|_
 case row=>exact k ns h
 all_goals exact h.elim
def Nn:wb:=λ a σ K=>onRow a λ ns=>cK (zo ns) (K (.own σ.mem.length) ⟨σ.loc,σ.mem++[.il (lM ns)]⟩)
noncomputable def KL:Bf P ct:={nm:="set",f:= .type "set",l5:=λ aa aa aa=>False,jj:=false,hf:=λ aa e=>(nomatch e),snd:=λ aa aa aa aa aa aa aa aa aa aa aa aa h=>h.elim}
theorem Jw{F:Fd}{G:BM}{ρ:ae au}{σ:St}{s:ar}{Kv:AV->St->Prop}{a:AV}{u:ak}(O:gO P ct F)(R:RF F ct.aS G ρ σ s)(va:VR G ρ a u)(h:Nn a σ Kv):
  aH (aE P.prog P.w) F.A (call (.type "set") [u] []) (λ v s'=>aH (aE P.prog P.w) F.A (call (.builtin "sorted") [v] []) (PE F ct.aS G ρ Kv) dw s') dw s:=
 onRow.u (Q:=λ a=>VR G ρ a u->aH (aE P.prog P.w) F.A (call (.type "set") [u] []) (λ v s'=>aH (aE P.prog P.w) F.A (call (.builtin "sorted") [v] []) (PE F ct.aS G ρ Kv) dw s') dw s) h (λ ns h va=>h.u λ hz h=>
  va.Dr (Q:=λ u=>aH (aE P.prog P.w) F.A (call (.type "set") [u] []) (λ v s'=>aH (aE P.prog P.w) F.A (call (.builtin "sorted") [v] []) (PE F ct.aS G ρ Kv) dw s') dw s) λ l o us ho hl hi=>
   EH (items:=us) (val:=λ i=>ns.getD i 0) O.room.2.2 ⟨o,R.rm.kg _ _ ho,hl.is⟩ (λ i v e=>have q:=hi.at i v (bP.trans e); ⟨(g_.mp (aZ.mp hz _ (dB q.1))).imp bg bg,q.2⟩) λ h' tk hS keep=>
    hS.elim λ t z=>z.elim λ u z=>z.elim λ ep z=>u5 (s:={s with heap:=h',toks:=tk}) O.room.2.2 z λ h2 tk2 vs2 o2 n2 hi2 ho1 UQ YJ=>
     PE.Fo (ao:= .il (lM ns)) (s':={s with heap:=h2,toks:=tk2}) R (none_of λ o e=>dh ho1 (keep _ _ e)) UQ ⟨vs2.toArray,⟨_,rfl⟩,(ah (λ k=>cx (Js (seen (λ i=>ns.getD i 0) 0 k) (seen (λ i=>ns.getD i 0) 1 k)) vs2) (bh.symm.trans hi.length)).mp hi2⟩ (λ b o e=>YJ _ _ (keep _ _ e)) ⟨rfl,rfl,rfl⟩ h) va
def N_(q1 q2:c9)(as:SL P ct)(p2 p1:c9):SE P ct where
 bA:= .Call (.Name "sorted" q1) [.Call (.Name "set" q2) as.bA [] p2] [] p1
 run:=λ σ K=>as.run σ λ vs aI=>one Nn vs aI K
 ch:=O9 P ct "sorted" (.builtin "sorted")&&(O9 P ct "set" (.type "set")&&as.ch)
 star:=λ aa aa=>rfl
 ok:=λ c F G ρ σ s Kv O R h=>have c1:=aF c; have c2:=aF c1.2
  X.p4 (X.any (Ax O R c1.1 (X.uo (Pm:=λ aa=>True) ((iV (xB KL q2 as p2) q7).plain _ _) (oY λ aa e=>nomatch e) (X.lu (by exact(xB KL q2 as p2).star _ _) (X.p4 (X.any (Ax O R c2.1
   (X.uo (Pm:=λ aa=>True) (as.plain _ _) (oY λ aa e=>nomatch e) (X.mono (as.ok c2.2 F G ρ σ s _ _ O R h) λ vs s₁ z=>z.u λ dW c8 dx aI fQ fu dS va bH=>⟨trivial,va.a1 (Q:=λ vs=>WP P F.A (call (.type "set") vs []) _ s₁) bH λ a u bH vu=>
    X.any (c7 (Jw O dS vu bH) (λ v s' z=>X.any (BC ⟨trivial,X.any (c7 z (λ aa aa=>PE.up fQ fu) λ aa aa z=>z)⟩)) λ aa aa z=>z)⟩)))))))))
end
noncomputable abbrev T(α:Type):=Nat->α×Nat
noncomputable def T.p{α:Type}(a:α):T α:=λ s=>(a,s)
noncomputable def T.b{α β:Type}(x:T α)(f:α->T β):T β:=λ s=>Prod.casesOn (motive:=λ aa=>β×Nat) (x s) f
noncomputable def rd{β:Type}(f:Nat->T β):T β:=λ s=>f (s % 128) (s / 128)
noncomputable def p0:c9:=⟨0,0,0,0⟩
abbrev CE(ct:Ct):=(P:cC)->SE P ct
abbrev CT(ct:Ct):=(P:cC)->ST P ct
abbrev CL'(ct:Ct):=(P:cC)->SL P ct
abbrev CG(ct:Ct):=(P:cC)->TG P ct
abbrev CX(ct:Ct):=(P:cC)->SX P ct
abbrev CS(ct:Ct):=(P:cC)->SS P ct
structure Tr(ct:Ct) where
 e:aB->T (CE ct)
 t:aB->T (CT ct)
 s:ae f5->T (CS ct)
def SW:aB:= .Constant .none 0 p0
def vE:aB->Nat×bI×Nat×ae aB
 | .Name x _=>(1,x,0,[])
 | .Attribute o _ _=>(2,"",0,[o])
 | .Subscript a i _=>(3,"",0,[a,i])
 | .Tuple es k _=>(4,"",k,es)
 | .Call f as _ _=>(5,"",0,f::as)
 | .Lambda _ b _ _=>(6,"",0,[b])
 | .Slice l u _ _=>(7,"",0,[l.getD SW,u.getD SW])
 |_=>(0,"",0,[])
def kd(e:aB):Nat:=(vE e).1
def yO(e:aB):ae aB:=(vE e).2.2.2
def at_(l:ae aB)(i:Nat):aB:=l.getD i SW
noncomputable def cks(n:Nat):CK:=[CK.sw, .Om, .Yz, .Y7, .neB].getD (n - 1) .sw
noncomputable def trC(ct:Ct)(k:Nat)(p:c9):Const->CE ct
 | .int i=>λ aa=>yv i p
 | .bool b=>λ aa=>aao b k p
 | .str x=>λ aa=>adZ x k p
 | .bytes x=>λ aa=>adT x k p
 |_=>λ aa=>zD k p
def trG(ct:Ct)(ns:ae aB->T (ae hO))(e:aB):T (CG ct):=aY (aT (kd e) 4) ((ns (yO e)).b λ ns=> .p λ aa=>NO ns (vE e).2.2.1 e.pos) (rd λ n=> .p λ aa=>xy n e.pos)
def Z_(es:ae aB):T (ae hO):=k6 (motive:=λ aa=>T (ae hO)) (.p []) (λ e aa r=>rd λ n=>r.b λ r=> .p ((n,(vE e).2.1,e.pos)::r)) es
def trS(ns:ae (bI×dJ)):T (ae (aq Nat)):=k6 (motive:=λ aa=>T (ae (aq Nat))) (.p []) (λ e aa r=>match e.2 with
 | .local=>r.b λ r=> .p (none::r)
 | .free=>rd λ n=>r.b λ r=> .p (af n::r)
 |_=>r) ns
noncomputable def Z8(ns:ae (bI×dJ)):ae bI:=ns.filterMap λ e=>match e.2 with
 | .local=>af e.1
 | .free=>af e.1
 |_=>none
section
variable(k:(ct:Ct)->Tr ct)(ct:Ct)
def Wg(es:ae aB):T (CL' ct):=k6 (motive:=λ aa=>T (CL' ct)) (.p λ aa=>q7) (λ e aa r=>((k ct).e e).b λ a=>r.b λ r=> .p λ P=>iV (a P) (r P)) es
def trB{β:Type}(elt:aB)(gs:ae i9)(sc:qN)(f:(B:xN)->CE ct->((P:cC)->CL P (B.ct ct))->β):T β:=(trS sc.names).b λ src=>
 let B:xN:=⟨sc,Z8 sc.names,src⟩
 match gs with
 |[]=>((k ct).e elt).b λ i=> .p (f B i λ aa=>cl1 (xy 0 p0) (zD 0 p0))
 |g::gs=>((k ct).e g.iter).b λ i=>(trG (B.ct ct) Z_ g.target).b λ t=>((k (B.ct ct)).e elt).b λ x=>match g.ifs with
  |c::_=>((k (B.ct ct)).t c).b λ c=> .p (f B i λ P=>T3 (t P) (x P) (c P))
  |[]=>match gs with
   |h::_=>(trG (B.ct ct) Z_ h.target).b λ t'=>((k (B.ct ct)).e h.iter).b λ i'=> .p (f B i λ P=>cl2 (t P) (x P) (t' P) (i' P))
   |[]=> .p (f B i λ P=>cl1 (t P) (x P))
noncomputable def clA:ae au:=[245,343,469,567,610,713,779,812,847,385,511]
def recv(e:aB):aB:=aY (aT (kd e) 2) (at_ (yO e) 0) e
def XG(P:cC)(ct:Ct):ae (c9->SL P ct->c9->SE P ct):=[aas,aar,N7,xBa,adS,Ia,RP,RQ,aat,aau,Tp,Wx,N9,Wv,Wu]
def call2(P:cC)(ct:Ct):ae (SE P ct->c9->SL P ct->c9->SE P ct):=[λ o aa l p=>DT o l p,λ o aa l p=>Wr o l p,λ o q l p=>Wq o q l p false,λ o q l p=>Wq o q l p true,adY,Ws,aaq]
def trF(f:aB)(as:ae aB)(p:c9)(n:Nat):T (CE ct):=aY (eK n 15) ((Wg k ct as).b λ l=> .p λ P=>((XG P ct).getD n aas) f.pos (l P) p)
 (((k ct).e (recv f)).b λ o=>(Wg k ct as).b λ l=> .p λ P=>aY (eK n 30) (((call2 P ct).getD (n - 15) aaq) (o P) f.pos (l P) p) (aY (eK n 60) (adX (clA.getD (n - 30) 0) (o P) (l P) p) (DU (o P) (n - 60) f.pos (l P) p)))
def trD(f:aB)(p:c9)(g:aB):T (CE ct):=(Wg k ct (yO g).tail).b λ l=> .p λ P=>N_ f.pos (at_ (yO g) 0).pos (l P) g.pos p
def trU(a i:aB)(p:c9):T (CE ct):=aY (aT (kd i) 7) (((k ct).e a).b λ a=>((k ct).e (at_ (yO i) 0)).b λ l=>((k ct).e (at_ (yO i) 1)).b λ u=> .p λ P=>Wy (a P) (l P) (u P) i.pos p)
 (rd λ n=>((k ct).e a).b λ a=>((k ct).e i).b λ i=> .p λ P=>aY (aT n 0) (FY (a P) (i P) p) (aY (aT n 1) (aaw (a P) (i P) p) (aav (a P) (i P) p)))
def trE:aB->T (CE ct)
 | .Constant v k p=> .p (trC ct k p v)
 | .Name x p=>rd λ n=> .p λ P=>aY (eK n 20) (e8 n p) (Ww x (TT.gl.getD (n - 20) ("", .none)).2 p)
 | .BinOp a op b p=>((k ct).e a).b λ a=>((k ct).e b).b λ b=> .p λ P=>N6 (a P) op (b P) p
 | .UnaryOp _ a p=>((k ct).e a).b λ a=> .p λ P=>adW (a P) p
 | .IfExp t a b p=>((k ct).t t).b λ t=>((k ct).e a).b λ a=>((k ct).e b).b λ b=> .p λ P=>xIf (t P) (a P) (b P) p
 | .Compare a op b p=>rd λ n=>((k ct).e a).b λ a=>((k ct).e (at_ b 0)).b λ b=> .p λ P=>aY (aT n 0) (adU (a P) (op.headD .Eq) (b P) p) (aap (a P) (cks n) (b P) p)
 | .Attribute a _ p=>rd λ n=>((k ct).e a).b λ a=> .p λ P=>DS (a P) n p
 | .Subscript a i p=>trU k ct a i p
 | .Tuple es n p=>(Wg k ct es).b λ l=> .p λ P=>Wz (l P) n p
 | .List es p=>(Wg k ct es).b λ l=> .p λ P=>adV (l P) p
 | .Dict _ _ p=>rd λ n=> .p λ P=>Wt (aT n 1) p
 | .ListComp a gs sc p=>trB k ct a gs sc λ B i c P=>N8 B (i P) (c P) p
 | .Call f as _ p=>rd λ n=>aY (aT n 59) (trD k ct f p (at_ as 0)) (trF k ct f as p n)
 |_=> .p λ aa=>zD 0 p0
def trT:aB->T (CT ct)
 | .Compare a op b p=>rd λ n=>((k ct).e a).b λ a=>((k ct).e (at_ b 0)).b λ b=> .p λ P=>aY (aT n 0) (Rs (a P) (op.headD .Eq) (b P) p) (aY (aT n 6) (Z3 (a P) (b P) p) (Tf (a P) (cks n) (b P) p))
 | .BoolOp op vs p=>((k ct).t (at_ vs 0)).b λ a=>((k ct).t (at_ vs 1)).b λ b=> .p λ P=>match op with
  | .Or=>tOr (a P) (b P) p
  | .And=>adv (a P) (b P) p
 | .UnaryOp _ a p=>((k ct).t a).b λ a=> .p λ P=>adz (a P) p
 |e=>((k ct).e e).b λ a=> .p λ P=>Z7 (a P)
def trA(v:aB)(p:c9)(e:aB):T (CX ct):=match kd e with
 |1=>rd λ n=>match v with
  | .ListComp a gs sc r=>aY (eK n 20) (((k ct).e v).b λ v=> .p λ P=>Nc n e.pos (v P) p) (trB k ct a gs sc λ B i c P=>Nf (n - 20) (vE e).2.1 e.pos B (i P) (c P) r p)
  |_=>((k ct).e v).b λ v=> .p λ P=>Nc n e.pos (v P) p
 |2=>rd λ n=>((k ct).e (at_ (yO e) 0)).b λ o=>((k ct).e v).b λ v=> .p λ P=>Nd (o P) n e.pos (v P) p
 |3=>((k ct).e (at_ (yO e) 0)).b λ o=>((k ct).e (at_ (yO e) 1)).b λ i=>((k ct).e v).b λ v=> .p λ P=>Ta (o P) (i P) e.pos (v P) p
 |_=>rd λ m=>(Z_ (yO e)).b λ ns=>aY (aT m 1) ((Wg k ct (yO v)).b λ l=> .p λ P=>adm ns (vE e).2.2.1 e.pos (l P) (vE v).2.2.1 v.pos p) (((k ct).e v).b λ v=> .p λ P=>adn ns (vE e).2.2.1 e.pos (v P) p)
def trO(op:cH)(v:aB)(p:c9)(e:aB):T (CX ct):=match kd e with
 |1=>rd λ n=>((k ct).e v).b λ v=> .p λ P=>adl n e.pos op (v P) p
 |2=>rd λ n=>((k ct).e (at_ (yO e) 0)).b λ o=>((k ct).e v).b λ v=> .p λ P=>Nb (o P) n e.pos op (v P) p
 |_=>((k ct).e (at_ (yO e) 0)).b λ o=>((k ct).e (at_ (yO e) 1)).b λ i=>((k ct).e v).b λ v=> .p λ P=>S9 (o P) (i P) e.pos op (v P) p
noncomputable def G0:ae (ae aC):=[[false,false,false,false,false,false,true,false],[false,false,false,false,false,false,false,false],[false,false,false,false,false,false,false,true,false],[false,false,false,false,false,true,false,true,false]]
def trX(s:f5):T (CX ct):=match s with
 | .Pass p=> .p λ aa=>ZL p
 | .Return none p=> .p λ aa=>ZN p
 | .Return (af e) p=>rd λ n=>aY (aT n 0) (((k ct).e e).b λ e=> .p λ P=>FC (e P) p) (((k GJ).e (at_ (yO (at_ (yO e) 4)) 0)).b λ e=> .p λ P=>Q7 (e P))
 | .Expr e p=>rd λ n=>aY (aT n 0) (((k ct).e e).b λ e=> .p λ P=>Dx (e P) p) (.p λ aa=>sNo s)
 | .If t a b p=>((k ct).t t).b λ t=>((k ct).s a).b λ a=>((k ct).s b).b λ b=> .p λ P=>sIf (t P) (a P) (b P) p
 | .While t a _ p=>((k ct).t t).b λ t=>((k ct).s a).b λ a=> .p λ P=>Ng (t P) (a P) p
 | .For t i a _ p=>rd λ n=>(trG ct Z_ t).b λ t=>aY (aT n 1) (((k ct).e (at_ (yO i) 0)).b λ f=>(Wg k ct (yO i).tail).b λ l=>((k ct).s a).b λ a=> .p λ P=>ZK (t P) (f P) (l P) i.pos (a P) p)
  (((k ct).e i).b λ i=>((k ct).s a).b λ a=> .p λ P=>ZJ (t P) (i P) (aY (aT n 0) (a P) (NA (G0.getD (n - 2) []) (a P))) p)
 | .Assign ts v p=>trA k ct v p (at_ ts 0)
 | .AugAssign t op v p=>trO k ct op v p t
 |_=> .p λ aa=>sNo s
def trV(b:ae f5):T (CS ct):=k6 (motive:=λ aa=>T (CS ct)) (.p λ aa=>lN) (λ s aa r=>(trX k ct s).b λ x=>r.b λ r=> .p λ P=>iJ (x P) (r P)) b
end
def tr(n:Nat):(ct:Ct)->Tr ct:=Ea (motive:=λ aa=>(ct:Ct)->Tr ct) (λ aa=>⟨λ aa=> .p λ aa=>zD 0 p0,λ aa=> .p λ aa=>Z7 (zD 0 p0),λ aa=> .p λ aa=>lN⟩) (λ aa k ct=>⟨trE k ct,trT k ct,trV k ct⟩) n
def vS:f5->ae f5×aB×ae Arg×ae (bI×dJ)
 | .For t _ b _ _=>(b,t,[],[])
 | .While t b _ _=>(b,t,[],[])
 | .If _ b _ _=>(b,SW,[],[])
 | .Return e _=>([],e.getD SW,[],[])
 | .ClassDef _ _ _ b _ _ _ _ _ _ _=>(b,SW,[],[])
 | .FunctionDef _ a b _ _ _ sc _ _ _=>(b,SW,a.args,sc.names)
 |_=>([],SW,[],[])
def hH(s:f5):ae f5:=(vS s).1
def G6(s:f5):aB:=(vS s).2.1
def nZ(b:ae f5)(i:Nat):f5:=b.getD i (.Pass p0)
def yZ(i j:Nat):f5:=aY (aT j 0) (nZ gV.main.body i) (nZ (hH (nZ gV.main.body i)) (j - 1))
def Bl(tb cq:aC)(s:f5):Ct:=⟨(vS s).2.2.2,(vS s).2.2.2.filterMap λ e=>match e.2 with
 | .local=>af e.1
 | .cell=>af e.1
 |_=>none,false,tb,cq⟩
def FZ(s:f5):ae bI:=(vS s).2.2.1.map (·.arg)
def bo(ct:Ct)(b:ae f5)(s:Nat):CS ct:=((tr 20 ct).s b s).1
def vm(n:Nat)(ct:Ct)(b:ae f5)(s:Nat):CS ct:=((tr n ct).s b s).1
def mS(ct:Ct)(e:aB)(s:Nat):CG ct:=(trG ct Z_ e s).1
def tst(n:Nat)(ct:Ct)(e:aB)(s:Nat):CT ct:=((tr n ct).t e s).1
def kR:f5:=yZ 8 0
noncomputable def o_:Nat:=0x4001c284080038008003031e1c2810c007060414104
def d6:Ct:=Bl false false kR
def sD:CS d6:=bo d6 (hH kR) o_
def lX:CG d6:=mS d6 (G6 (nZ (hH kR) 1)) (o_ / 128 ^ 2)
def io:CS d6:=λ P=>NA (G0.getD 0 []) ((vm 19 d6 (hH (nZ (hH kR) 1)) (o_ / 128 ^ 4)) P)
def d4:f5:=yZ 10 0
noncomputable def f_:Nat:=0x2000618284303c0050818101343c1191e140000c00b8f0a0c084
def cu:Ct:=Bl false false d4
def k_:CS cu:=bo cu (hH d4) f_
def fm:CG cu:=mS cu (G6 (nZ (hH d4) 1)) (f_ / 128 ^ 3)
def gQ:CS cu:=λ P=>NA (G0.getD 1 []) ((vm 19 cu (hH (nZ (hH d4) 1)) (f_ / 128 ^ 7)) P)
def qj:f5:=yZ 19 0
noncomputable def C8:Nat:=0x800000d800004000
def mo:Ct:=Bl false false qj
def pZ:CS mo:=bo mo (hH qj) C8
def qi:f5:=yZ 20 0
noncomputable def C7:Nat:=0x1000200001000400100041000004000006c002
def ml:Ct:=Bl false false qi
def pY:CS ml:=bo ml (hH qi) C7
def jW:f5:=yZ 46 1
noncomputable def sf:Nat:=0x18020007801cac00d
def gX:Ct:=Bl false false jW
def jK:CS gX:=bo gX (hH jW) sf
def l4:f5:=yZ 46 2
noncomputable def u_:Nat:=0x18000202b478008006801a00704003400202b078008006801a00704003402b00340020204003001000d04040003600004
def g7:Ct:=Bl false false l4
def lT:CS g7:=bo g7 (hH l4) u_
def gK:f5:=yZ 46 3
noncomputable def kO:Nat:=0xf01840001e0000f003800d5600680
def cn:Ct:=Bl false false gK
def kG:CS cn:=bo cn (hH gK) kO
def iX:CT cn:=tst 19 cn (G6 (nZ (hH gK) 0)) (kO / 128 ^ 0)
def iW:CS cn:=vm 19 cn (hH (nZ (hH gK) 0)) (kO / 128 ^ 4)
def e7:f5:=yZ 46 4
noncomputable def iF:Nat:=0x40102400100200810020080100200010000808100b800e5c00701
def cJ:Ct:=Bl false false e7
def iE:CS cJ:=bo cJ (hH e7) iF
def fj:CT cJ:=tst 18 cJ (G6 (nZ (hH (nZ (hH e7) 2)) 2)) (iF / 128 ^ 14)
def fh:CS cJ:=vm 18 cJ (hH (nZ (hH (nZ (hH e7) 2)) 2)) (iF / 128 ^ 19)
def iI:f5:=yZ 46 5
noncomputable def pI:Nat:=0x20072b020070100ad5801a00701
def fU:Ct:=Bl false false iI
def iD:CS fU:=bo fU (hH iI) pI
def f6:f5:=yZ 46 6
noncomputable def jP:Nat:=0x100400010260001004000100a03080003806100007801c03100
def cw:Ct:=Bl false false f6
def jL:CS cw:=bo cw (hH f6) jP
def f9:CT cw:=tst 19 cw (G6 (nZ (hH f6) 5)) (jP / 128 ^ 15)
def f8:CS cw:=vm 19 cw (hH (nZ (hH f6) 5)) (jP / 128 ^ 22)
def iZ:f5:=yZ 62 0
noncomputable def mM:Nat:=0x100051424401ca1c202220030a12203800a108800614003000803d0c04284
def dQ:Ct:=Bl false false iZ
def kH:CS dQ:=bo dQ (hH iZ) mM
def np:CG dQ:=mS dQ (G6 (nZ (hH iZ) 2)) (mM / 128 ^ 3)
def kN:CS dQ:=vm 19 dQ (hH (nZ (hH iZ) 2)) (mM / 128 ^ 7)
def gY:f5:=yZ 63 0
noncomputable def ma:Nat:=0x103923c0c81e040090a0c1010130784
def gJ:Ct:=Bl true true gY
def l_:CS gJ:=bo gJ (hH gY) ma
def d0:f5:=yZ 64 0
noncomputable def fR:Nat:=0x4001c3000e10207081838006140807e403020a00084
def bW:Ct:=Bl true false d0
def l9:CS bW:=bo bW (hH d0) fR
def o8:CG bW:=mS bW (G6 (nZ (hH (nZ (hH d0) 1)) 1)) (fR / 128 ^ 13)
def o0:CS bW:=vm 18 bW (hH (nZ (hH (nZ (hH d0) 1)) 1)) (fR / 128 ^ 15)
def o9:CG bW:=mS bW (G6 (nZ (hH d0) 1)) (fR / 128 ^ 3)
def o4:CS bW:=vm 19 bW (hH (nZ (hH d0) 1)) (fR / 128 ^ 5)
def mQ:f5:=yZ 74 0
noncomputable def si:Nat:=0x808008081040804084000c18300100030008080
def hU:Ct:=Bl false false mQ
def wi:CS hU:=bo hU (hH mQ) si
def rp:CG hU:=mS hU (G6 (nZ (hH mQ) 1)) (si / 128 ^ 4)
def rl:CS hU:=vm 19 hU (hH (nZ (hH mQ) 1)) (si / 128 ^ 6)
def i6:f5:=yZ 81 0
noncomputable def kP:Nat:=0x2000c0800408085100020304041010a284060e0248f03207852200304061c10e0f1cc8f343c1800c102803e0100300ec2050084001020c101
def cN:Ct:=Bl false false i6
def ib:CS cN:=bo cN (hH i6) kP
def jA:CG cN:=mS cN (G6 (nZ (hH (nZ (hH i6) 1)) 1)) (kP / 128 ^ 19)
def jz:CS cN:=λ P=>NA (G0.getD 2 []) ((vm 18 cN (hH (nZ (hH (nZ (hH i6) 1)) 1)) (kP / 128 ^ 27)) P)
def pu:CG cN:=mS cN (G6 (nZ (hH i6) 1)) (kP / 128 ^ 9)
def lW:CS cN:=λ P=>NA (G0.getD 3 []) ((vm 19 cN (hH (nZ (hH i6) 1)) (kP / 128 ^ 17)) P)
def mf:f5:=yZ 82 0
noncomputable def mN:Nat:=0x1060008002000800594101021020302000070c14182944030b14005870e2c20a1600488963c500121840305307820c104029a3c4851000081843c38602081ce1e040c21e1408232080cf1e1018003407820144781
def dL:Ct:=Bl true false mf
def wh:CS dL:=bo dL (hH mf) mN
def Mu:CG dL:=mS dL (G6 (nZ (hH (nZ (hH mf) 5)) 3)) (mN / 128 ^ 59)
def Mh:CS dL:=vm 18 dL (hH (nZ (hH (nZ (hH mf) 5)) 3)) (mN / 128 ^ 61)
def C1:CG dL:=mS dL (G6 (nZ (hH mf) 5)) (mN / 128 ^ 35)
def CU:CS dL:=vm 19 dL (hH (nZ (hH mf) 5)) (mN / 128 ^ 37)
def BV:CE GJ:=((tr 19 GJ).e (at_ (yO (at_ (yO (G6 (nZ (hH gY) 2))) 4)) 0) (ma / 128 ^ 11)).1
def acW:CS dL:=vm 19 dL (jm 3 (hH (nZ (hH mf) 5))) (mN / 128 ^ 58)
def acV:CS dL:=vm 19 dL (jm 2 (hH (nZ (hH mf) 5))) (mN / 128 ^ 53)
def acU:CS dL:=vm 19 dL (jm 1 (hH (nZ (hH mf) 5))) (mN / 128 ^ 44)
def YS:CS dL:=vm 20 dL (jm 7 (hH mf)) (mN / 128 ^ 78)
def YR:CS dL:=vm 20 dL (jm 6 (hH mf)) (mN / 128 ^ 69)
def YQ:CS dL:=vm 20 dL (jm 5 (hH mf)) (mN / 128 ^ 34)
def SN:CS dL:=vm 20 dL (jm 4 (hH mf)) (mN / 128 ^ 27)
def SM:CS dL:=vm 20 dL (jm 3 (hH mf)) (mN / 128 ^ 15)
def YP:CS dL:=vm 20 dL (jm 2 (hH mf)) (mN / 128 ^ 8)
def YO:CS dL:=vm 20 dL (jm 1 (hH mf)) (mN / 128 ^ 4)
noncomputable def bk(ns:ae (bI×dJ))(src:ae (aq Nat)):xN:=⟨⟨.function,ns,false,false,[]⟩,Z8 ns,src⟩
noncomputable def pT:xN:=bk [(".0", .local),("size", .local),("value", .local),("least", .free)] [none,none,none,af 8]
noncomputable def pU:xN:=bk [(".0", .local),("size", .local),("value", .local)] [none,none,none]
noncomputable def F9:xN:=bk [(".0", .local),("name", .local),("grid", .free),("rows", .free)] [none,none,af 3,af 4]
noncomputable def On:xN:=bk [(".0", .local),("turn", .local),("_law_scan", .globalImplicit),("frame", .free),("source", .free)] [none,none,af 2,af 1]
noncomputable def Nj:(a b:TV)->aq {u:e6 // a=b}
 | .ex x, .ex y=>ob (Xr x y) λ h=>af ⟨(),ah TV.ex h.2⟩
 | .rg a b, .rg c d=>dE (nY a c) λ h=>dE (nY b d) λ k=>af ⟨(),h▸k▸rfl⟩
 | .ai, .ai=>af ⟨(),rfl⟩
 | .tb, .tb=>af ⟨(),rfl⟩
 | .tp a b, .tp c d=>ob (Nj a c) λ h=>ob (Nj b d) λ k=>af ⟨(),h.2▸k.2▸rfl⟩
 | .JT m, .JT n=>dE (jp m n) λ h=>af ⟨(),h▸rfl⟩
 | .nr a b c, .nr d e f=>dE (nY a d) λ h=>dE (nY b e) λ k=>dE (nY c f) λ l=>af ⟨(),h▸k▸l▸rfl⟩
 |_,_=>none
abbrev JS(a b:TV):Prop:=∀v,GV a v->GV b v
theorem JS.refl{a:TV}:JS a a:=λ aa g=>g
theorem JS.eq{a b:TV}(h:a=b):JS b a:=h▸JS.refl
theorem H9{t:TV}{p:Int×Int}{l u:Int}(e:mj t=af p)(h0:l<=p.1)(h1:p.2<=u):JS t (.rg l u):=λ v g=>mj.u e g (Q:=GV (.rg l u)) λ i a b=>⟨i,rfl,aO h0 a,aO b h1⟩
abbrev Jn(a b:TV):=aq {j:TV // JS a j/\JS b j}
def SK(a b:TV):Jn a b:=ob (Nj a b) λ h=>af ⟨a,JS.refl,JS.eq h.2⟩
def jV(a b:TV):Jn a b:=
 oe (SK a b)
 (oe (jS (mj a) λ p hp=>jS (mj b) λ q hq=>af ⟨.rg (min p.1 q.1) (max p.2 q.2),H9 hp (qr _ _) (qq _ _),H9 hq (pB _ _) (pA _ _)⟩)
 (ob (tI a) λ x=>ob (tI b) λ y=>af ⟨.ai,x.2,y.2⟩))
abbrev uY(a b:ae TV):Prop:=∀v,dH a v->dH b v
theorem uY.cons{a b:TV}{r t:ae TV}(h:JS a b)(k:uY r t):uY (a::r) (b::t):=λ v=> .imp λ u=> .imp λ x=> .imp_right<| .imp (h u) (k x)
noncomputable def YI:(a b:ae TV)->aq {j:ae TV // uY a j/\uY b j}
 |[],[]=>af ⟨[],λ aa g=>g,λ aa g=>g⟩
 |a::r,b::t=>ob (jV a b) λ x=>ob (YI r t) λ y=>af ⟨x.1::y.1,uY.cons x.2.1 y.2.1,uY.cons x.2.2 y.2.2⟩
 |_,_=>none
abbrev RW(a b:ae (Int×Int)):Prop:=∀v,rb a v->rb b v
theorem RW.cons{a:Int×Int}{l u:Int}{r t:ae (Int×Int)}(h0:l<=a.1)(h1:a.2<=u)(k:RW r t):RW (a::r) ((l,u)::t):=λ v=> .imp λ aa=> .imp λ x=> .imp_right<| .imp (aO h0)<| .imp (aO · h1) (k x)
noncomputable def jQ:(a b:ae (Int×Int))->aq {j:ae (Int×Int) // RW a j/\RW b j}
 |[],[]=>af ⟨[],λ aa g=>g,λ aa g=>g⟩
 |a::r,b::t=>ob (jQ r t) λ y=>af ⟨(min a.1 b.1,max a.2 b.2)::y.1,RW.cons (qr _ _) (qq _ _) y.2.1,RW.cons (pB _ _) (pA _ _) y.2.2⟩
 |_,_=>none
noncomputable def Mo:ae (Int×Int)->Int
 |[]=>0
 |q::r=>min q.1 (Mo r)
noncomputable def NQ:ae (Int×Int)->Int
 |[]=>0
 |q::r=>max q.2 (NQ r)
theorem rb.all:∀{q:ae (Int×Int)} {r:ae Int},rb q r->∀x∈r,Mo q<=x/\x<=NQ q
 |[],_=>λ h=>h.u0 (Q:=λ r=>∀x∈r,Mo []<=x/\x<=NQ []) λ aa h=>bt h bK
 |p::q,_=>λ h=>h.uc (Q:=λ r=>∀x∈r,Mo (p::q)<=x/\x<=NQ (p::q)) λ u r h0 h1 h=>aJ.mpr ⟨⟨aO (qr _ _) h0,aO h1 (qq _ _)⟩,λ x hx=>(rb.all h x hx).imp (aO (pB _ _)) (aO · (pA _ _))⟩
structure ll(a b:TO):Prop where
 go:∀m o,GO m a o->GO m b o
 q:mq b=mq a
 ba:wO a=true->b= .ba
theorem G9{a:TO}(h:wO a=true):a= .ba:=by
 rcases a with _|_|_|_|_|_|_|_|_|_
 case ba=>rfl
 all_goals exact ay h
theorem ll.refl(a:TO):ll a a:=⟨λ aa aa g=>g,rfl,G9⟩
theorem ll.eq{a b:TO}(h:a=b):ll b a:=h▸ll.refl a
theorem RJ{f:ae AV->AO}{a b:ae TV}{o:AO}(k:uY a b):(∃us,o=f us/\dH a us)->∃us,o=f us/\dH b us:= .imp λ aa=> .imp_right (k _)
section
variable{a b:ae TV}
theorem ll.ns{ks xO:ae Nat}(h:ks=xO)(k:uY a b):ll (.ns xO a) (.ns ks b):=h▸⟨λ aa aa=>RJ (f:=AO.ns ks) k,rfl,λ h=>ay h⟩
theorem ll.iO{ks xO:ae Int}(h:ks=xO)(k:uY a b):ll (.iO xO a) (.iO ks b):=h▸⟨λ aa aa=>RJ (f:=AO.iO ks) k,rfl,λ h=>ay h⟩
theorem ll.bG{ks xO:ae (ae Int)}(h:ks=xO)(k:uY a b):ll (.bG xO a) (.bG ks b):=h▸⟨λ aa aa=>RJ (f:=AO.bG ks) k,rfl,λ h=>ay h⟩
theorem ll.lst(k:uY a b):ll (.lst a) (.lst b):=⟨λ aa aa=>RJ (f:=AO.lst) k,rfl,λ h=>ay h⟩
theorem ll.il{a b:ae (Int×Int)}(k:RW a b):ll (.il a) (.il b):=⟨λ aa aa=> .imp λ aa=> .imp_right (k _),rfl,λ h=>ay h⟩
theorem ll.enc{q q' L L':Nat}(h:q=q')(l:L<=L'):ll (.enc q' L) (.enc q L'):=h▸⟨λ aa aa=> .imp λ aa=> .imp λ aa=> .imp λ aa=> .imp λ aa=> .imp_right<| .imp_right<| .imp_right (aG · l),rfl,λ h=>ay h⟩
theorem ll.Al{o:TO}{n n':Nat}{l u l' u':Int}(h:ll o (.Al n l u))(e:n'=n)(h0:l'<=l)(h1:u<=u'):ll o (.Al n' l' u'):=
 ⟨λ m x g=>(h.go m x g).imp λ aa=> .imp_right<| .imp (·.trans e.symm) λ a y hy=>(a y hy).imp (aO h0) (aO · h1),h.q,λ q=>TO.noConfusion (h.ba q)⟩
end
noncomputable def Vq(o:TO):aq {c:Nat×Int×Int // ll o (.Al c.1 c.2.1 c.2.2)}:=match o with
 | .Al n l u=>af ⟨(n,l,u),ll.refl _⟩
 | .il q=>af ⟨(q.length,Mo q,NQ q),λ aa aa=> .imp λ aa=> .imp_right λ h=>⟨h.len,h.all⟩,rfl,λ h=>ay h⟩
 |_=>none
def jO:(a b:TO)->aq {j:TO // ll a j/\ll b j}
 | .ns ks a, .ns xO b=>dE (nY ks xO) λ h=>ob (YI a b) λ x=>af ⟨.ns ks x.1,ll.ns rfl x.2.1,ll.ns h x.2.2⟩
 | .inst C j, .inst C' j'=>dE (jp C C') λ h=>dE (jp j j') λ k=>af ⟨.inst C j,ll.refl _,ll.eq (h▸k▸rfl)⟩
 | .lst a, .lst b=>ob (YI a b) λ x=>af ⟨.lst x.1,ll.lst x.2.1,ll.lst x.2.2⟩
 | .il p, .il q=>ob (jQ p q) λ x=>af ⟨.il x.1,ll.il x.2.1,ll.il x.2.2⟩
 | .iO ks a, .iO xO b=>dE (nY ks xO) λ h=>ob (YI a b) λ x=>af ⟨.iO ks x.1,ll.iO rfl x.2.1,ll.iO h x.2.2⟩
 | .bG ks a, .bG xO b=>dE (nY ks xO) λ h=>ob (YI a b) λ x=>af ⟨.bG ks x.1,ll.bG rfl x.2.1,ll.bG h x.2.2⟩
 | .enc q L, .enc q' L'=>dE (jp q q') λ h=>af ⟨.enc q (max L L'),ll.enc rfl (Nat.le_max_left _ _),ll.enc h (Nat.le_max_right _ _)⟩
 | .ba, .ba=>af ⟨.ba,ll.refl _,ll.refl _⟩
 | .ix a, .ix b=>dE (nY a b) λ h=>af ⟨.ix a,ll.refl _,ll.eq (h▸rfl)⟩
 |a,b=>ob (Vq a) λ x=>ob (Vq b) λ y=>dE (jp x.1.1 y.1.1) λ h=>af ⟨.Al x.1.1 (min x.1.2.1 y.1.2.1) (max x.1.2.2 y.1.2.2),x.2.Al rfl (qr _ _) (qq _ _),y.2.Al h (pB _ _) (pA _ _)⟩
noncomputable def qx:ae TO->ae TO->Prop
 |[],m=>m=[]
 |a::r,m=>∃b t,m=b::t/\ll a b/\qx r t
theorem qx.uc{a:TO}{r m:ae TO}{Q:ae TO->Prop}(h:qx (a::r) m)(k:∀b t,ll a b->qx r t->Q (b::t)):Q m:=aD h λ b h=>h.elim λ t h=>h.1▸k b t h.2.1 h.2.2
theorem qx.u0{m:ae TO}{Q:ae TO->Prop}(h:qx [] m)(k:Q []):Q m:=(show m=[] from h)▸k
theorem qx.cons{a b:TO}{r t:ae TO}(h:ll a b)(k:qx r t):qx (a::r) (b::t):=⟨b,t,rfl,h,k⟩
theorem qx.refl:∀m:ae TO,qx m m
 |[]=>rfl
 |a::r=> .cons (ll.refl a) (qx.refl r)
noncomputable def jM:(a b:ae TO)->aq {j:ae TO // qx a j/\qx b j}
 |[],[]=>af ⟨[],rfl,rfl⟩
 |a::r,b::t=>ob (jO a b) λ x=>ob (jM r t) λ y=>af ⟨x.1::y.1, .cons x.2.1 y.2.1, .cons x.2.2 y.2.2⟩
 |_,_=>none
theorem qx.len:∀{a b:ae TO},qx a b->a.length=b.length
 |[],_=>λ h=>h.u0 (Q:=λ b=>0=b.length) rfl
 |_::r,_=>λ h=>h.uc (Q:=λ b=>r.length+1=b.length) λ aa aa aa h=>ah (·+1) h.len
theorem qx.at:∀{a b:ae TO} {i:Nat} {o:TO},qx a b->gW b i=af o->∃x,gW a i=af x/\ll x o
 |[],_,i,o=>λ h=>h.u0 (Q:=λ b=>gW b i=af o->∃x,gW [] i=af x/\ll x o) λ e=>cm e
 |x::r,_,i,o=>λ h=>h.uc (Q:=λ b=>gW b i=af o->∃y,gW (x::r) i=af y/\ll y o) λ y t l h=>match i with
  |0=>λ e=>⟨x,rfl,am e▸l⟩
  |i+1=>qx.at (i:=i) h
theorem qx.get:∀{a b:ae TO} {i:Nat} {o:TO},qx a b->gW a i=af o->∃x,gW b i=af x/\ll o x
 |[],_,i,o=>λ aa e=>cm e
 |x::r,_,i,o=>λ h=>h.uc (Q:=λ b=>gW (x::r) i=af o->∃y,gW b i=af y/\ll o y) λ y t l h=>match i with
  |0=>λ e=>⟨y,rfl,am e▸l⟩
  |i+1=>qx.get (i:=i) h
theorem GM.le{t j:ae TO}{m:ae AO}(g:GM t m)(h:qx t j):GM j m:=
 ⟨h.len.symm.trans g.len,λ i o e=>(h.at e).elim λ x w=>(g.get i x w.1).imp λ aa=> .imp_right (w.2.go _ _),
  λ i o q e hq=>(h.at e).elim λ x w=>(h.get (g.enc i x q w.1 (w.2.q.symm.trans hq))).elim λ y z=>z.1.trans (ah af (z.2.ba rfl))⟩
noncomputable abbrev Out:=TV×ae TO
structure Io(a b:Out):Prop where
 v:JS a.1 b.1
 m:qx a.2 b.2
theorem Io.refl(a:Out):Io a a:=⟨λ aa g=>g,qx.refl _⟩
def jR(w:aC)(a b:TV):Jn a b:=match w with
 |true=>jV a b
 |false=>SK a b
abbrev JU(a b:Out):=aq {j:Out // Io a j/\Io b j}
def jU(w:aC)(a b:Out):JU a b:=ob (jR w a.1 b.1) λ x=>ob (jM a.2 b.2) λ y=>af ⟨(x.1,y.1),⟨x.2.1,y.2.1⟩,⟨x.2.2,y.2.2⟩⟩
noncomputable def jC{o x:Out}(q:JU o x)(r l:ae Out):ae Out:=match q with
 |some j=>j.1::r
 |none=>x::l
noncomputable def jIn(w:aC)(o:Out):ae Out->ae Out
 |[]=>[o]
 |x::r=>jC (jU w o x) r (jIn w o r)
abbrev Gb(l l':ae Out):Prop:=∀x∈l,∃y,y∈l'/\Io x y
theorem Gb.of{l l':ae Out}(h:∀x∈l,x∈l'):Gb l l':=λ x hx=>⟨x,h x hx,Io.refl x⟩
theorem Gb.up{l l':ae Out}{a:Out}(h:Gb l l'):Gb l (a::l'):=λ x hx=>(h x hx).imp λ aa=> .imp_left (aP _)
theorem YH{o x:Out}{r l:ae Out}(ih:Gb (o::r) l):∀q:JU o x,Gb (o::x::r) (jC q r l)
 |some j=>aJ.mpr ⟨⟨j.1,aR,j.2.1⟩,aJ.mpr ⟨⟨j.1,aR,j.2.2⟩,Gb.of λ aa h=>aP _ h⟩⟩
 |none=>have ih:=aJ.mp (Gb.up (a:=x) ih); aJ.mpr ⟨ih.1,aJ.mpr ⟨⟨x,aR,Io.refl x⟩,ih.2⟩⟩
theorem L7(w:aC)(o:Out):∀l:ae Out,Gb (o::l) (jIn w o l)
 |[]=>Gb.of λ aa h=>h
 |x::r=>YH (L7 w o r) (jU w o x)
theorem ll.trans{a b c:TO}(h:ll a b)(k:ll b c):ll a c:=⟨λ m o g=>k.go m o (h.go m o g),k.q.trans h.q,λ q=>k.ba (h.ba q▸rfl)⟩
theorem qx.trans:∀{a b c:ae TO},qx a b->qx b c->qx a c
 |[],_,c=>λ h=>h.u0 (Q:=λ b=>qx b c->qx [] c) id
 |x::a,_,c=>λ h=>h.uc (Q:=λ b=>qx b c->qx (x::a) c) λ y b l h k=>k.uc (Q:=qx (x::a)) λ aa aa l' k=> .cons (l.trans l') (h.trans k)
theorem Io.trans{a b c:Out}(h:Io a b)(k:Io b c):Io a c:=⟨λ v g=>k.v v (h.v v g),h.m.trans k.m⟩
noncomputable def L6(w:aC):ae Out->ae Out
 |[]=>[]
 |o::r=>jIn w o (L6 w r)
theorem Ap(w:aC):∀l:ae Out,Gb l (L6 w l)
 |[]=>λ aa h=>bt h bK
 |o::r=>have c:=aJ.mp (L7 w o (L6 w r)); aJ.mpr ⟨c.1,λ x hx=>(Ap w r x hx).elim λ y z=>(c.2 y z.1).imp λ aa=> .imp_right z.2.trans⟩
noncomputable def Z6(o:AF×AS):Out:=match o.1 with
 | .d8=>(.ex .none,o.2.mem)
 | .ret t=>(t,o.2.mem)
noncomputable def zx:ae bI->ae TV->ae TV
 |_::r,v::vs=>v::zx r vs
 |_::r,[]=> .ex .undef::zx r []
 |[],_=>[]
theorem xw:∀(aS:ae bI) {ts:ae TV} {vs:ae AV},dH ts vs->dH (zx aS ts) (fill aS vs)
 |[],_,_=>λ aa=>rfl
 |x::r,[],_=>λ h=>h.u0 (Q:=λ vs=>dH (zx (x::r) []) (fill (x::r) vs)) ⟨.undef,_,rfl,rfl,xw r rfl⟩
 |x::r,t::ts,_=>λ h=>h.uc (Q:=λ vs=>dH (zx (x::r) (t::ts)) (fill (x::r) vs)) λ u us g gs=>⟨u,_,rfl,g,xw r gs⟩
section
abbrev RA:Type:=aq (ae Out)
noncomputable def fN(n:Nat)(k:Nat->RA):RA:=Ea (motive:=λ aa=>RA) (k 0) (λ m aa=>k (rH m)) n
theorem uA(n:Nat)(k:Nat->RA):fN n k=k n:=by cases n<;>rfl
def fI(i:Int)(k:Int->RA):RA:=Int.rec (motive:=λ aa=>RA) (λ n=>fN n λ n=>k (.ofNat n)) (λ n=>fN n λ n=>k (.negSucc n)) i
theorem yX(i:Int)(k:Int->RA):fI i k=k i:=by
 rcases i with n|n
 ·exact uA n λ n=>k (.ofNat n)
 ·exact uA n λ n=>k (.negSucc n)
def fL{β:Type}(f:β->(β->RA)->RA)(l:ae β)(k:ae β->RA):RA:=k6 (motive:=λ aa=>(ae β->RA)->RA) (λ k=>k []) (λ t aa h k=>f t λ t=>h λ r=>k (t::r)) l k
theorem Ck{β:Type}{f:β->(β->RA)->RA}(h:∀t k,f t k=k t):∀(l:ae β) (k:ae β->RA),fL f l k=k l
 |[],_=>rfl
 |t::r,k=>(h t λ t=>fL f r λ r=>k (t::r)).trans (Ck h r λ r=>k (t::r))
def fV(v:AV)(k:AV->RA):RA:=AV.rec (motive_1:=λ aa=>(AV->RA)->RA) (motive_2:=λ aa=>RA) (λ k=>k .undef) (λ k=>k .none) (λ b k=>k (.bool b)) (λ i k=>k (.int i)) (λ b k=>k (.j9 b)) (λ p k=>fN p λ p=>k (.own p)) (λ v k=>k (.val v)) (λ a k=>k (.fn a)) (λ x k=>k (.lq x)) (λ x k=>k (.m9 x)) (λ x aa k=>k (.tup x)) (λ x aa k=>k (.lst x)) (λ x k=>k (.row x)) (λ C s v aa k=>k (.inst C s v)) (λ k=>k .any) (λ a b c k=>k (.j_ a b c)) (λ s v aa k=>k (.iO s v)) (λ s v aa k=>k (.bG s v)) none (λ aa aa aa aa=>none) v k
theorem X6(v:AV)(k:AV->RA):fV v k=k v:=by
 rcases v with _|_|_|_|_|p|_|_|_|_|_|_|_|_|_|_|_|_
 case own=>exact uA p λ p=>k (.own p)
 all_goals rfl
noncomputable def fT(t:TV)(k:TV->RA):RA:=TV.rec (motive:=λ aa=>(TV->RA)->RA) (λ v k=>fV v λ v=>k (.ex v)) (λ l u k=>fI l λ l=>fI u λ u=>k (.rg l u)) (λ k=>k .ai) (λ k=>k .tb) (λ n k=>k (.JT n))
 (λ aa aa a b k=>a λ a=>b λ b=>k (.tp a b)) (λ q k=>k (.rw q)) (λ k=>k .ln) (λ h t aa aa k=>k (.lc h t)) (λ v l u k=>k (.nr v l u)) (λ R k=>k (.gr R)) t k
theorem Lg:∀(t:TV) (k:TV->RA),fT t k=k t
 | .ex v,k=>X6 v λ v=>k (.ex v)
 | .rg l u,k=>(yX l λ l=>fI u λ u=>k (.rg l u)).trans (yX u λ u=>k (.rg l u))
 | .tp a b,k=>(Lg a λ a=>fT b λ b=>k (.tp a b)).trans (Lg b λ b=>k (.tp a b))
 | .ai,_=>rfl
 | .tb,_=>rfl
 | .JT _,_=>rfl
 | .rw _,_=>rfl
 | .ln,_=>rfl
 | .lc _ _,_=>rfl
 | .nr _ _ _,_=>rfl
 | .gr _,_=>rfl
def fq(q:Int×Int)(k:Int×Int->RA):RA:=fI q.1 λ a=>fI q.2 λ b=>k (a,b)
theorem X_(q:Int×Int)(k:Int×Int->RA):fq q k=k q:=(yX q.1 λ a=>fI q.2 λ b=>k (a,b)).trans (yX q.2 λ b=>k (q.1,b))
noncomputable def Uo(l:ae TV)(k:ae TV->RA):RA:=fL fT l k
def fO(o:TO)(k:TO->RA):RA:=TO.rec (motive:=λ aa=>(TO->RA)->RA) (λ ks vs k=>fL fN ks λ ks=>Uo vs λ vs=>k (.ns ks vs)) (λ C j k=>fN j λ j=>k (.inst C j)) (λ vs k=>Uo vs λ vs=>k (.lst vs)) (λ q k=>fL fq q λ q=>k (.il q))
 (λ n l u k=>fN n λ n=>fI l λ l=>fI u λ u=>k (.Al n l u)) (λ ks vs k=>Uo vs λ vs=>k (.iO ks vs)) (λ ks vs k=>Uo vs λ vs=>k (.bG ks vs)) (λ q L k=>fN q λ q=>fN L λ L=>k (.enc q L)) (λ k=>k .ba) (λ r k=>k (.ix r)) o k
theorem wz:∀(l:ae TV) (k:ae TV->RA),Uo l k=k l:=Ck Lg
theorem X5:∀(o:TO) (k:TO->RA),fO o k=k o
 | .ns ks vs,k=>(Ck uA ks λ ks=>Uo vs λ vs=>k (.ns ks vs)).trans (wz vs λ vs=>k (.ns ks vs))
 | .inst C j,k=>uA j λ j=>k (.inst C j)
 | .lst vs,k=>wz vs λ vs=>k (.lst vs)
 | .il q,k=>Ck X_ q λ q=>k (.il q)
 | .Al n l u,k=>(uA n λ n=>fI l λ l=>fI u λ u=>k (.Al n l u)).trans ((yX l λ l=>fI u λ u=>k (.Al n l u)).trans (yX u λ u=>k (.Al n l u)))
 | .iO ks vs,k=>wz vs λ vs=>k (.iO ks vs)
 | .bG ks vs,k=>wz vs λ vs=>k (.bG ks vs)
 | .enc q L,k=>(uA q λ q=>fN L λ L=>k (.enc q L)).trans (uA L λ L=>k (.enc q L))
 | .ba,k=>rfl
 | .ix r,k=>rfl
noncomputable def fM(l:ae TO)(k:ae TO->RA):RA:=fL fO l k
theorem X4:∀(l:ae TO) (k:ae TO->RA),fM l k=k l:=Ck X5
end
def jNj(nj w:aC)(l:ae Out):ae Out:=aY nj l (L6 w l)
theorem U3(w:aC)(l:ae Out):∀nj:aC,Gb l (jNj nj w l)
 |true=>Gb.of λ aa h=>h
 |false=>Ap w l
def VN{P:cC}{ct:Ct}(nj w:aC)(b:SS P ct)(ts:ae TV)(tm:ae TO):aq (ae Out):=Uo ts λ ts=>fM tm λ tm=>ob (b.ab ⟨zx ct.aS ts,tm⟩) λ outs=>af (jNj nj w (outs.map Z6))
inductive En{P:cC}{ct:Ct}(b:SS P ct)(σ:St)(p:Out->Prop):Prop
 |mk (v:AV) (m:ae AO) (o:Out) (ho:p o) (gv:GV o.1 v) (gm:GM o.2 m) (run:b.run σ (iH λ v' m'=>v'=v/\m'=m))
theorem En.imp{P:cC}{ct:Ct}{b:SS P ct}{σ:St}{p q:Out->Prop}(k:∀o,p o->∃y,q y/\Io o y)(h:En b σ p):En b σ q:=by
 rcases h with⟨v,m,o,ho,gv,gm,run⟩
 exact(k o ho).elim λ y z=>⟨v,m,y,z.1,z.2.v v gv,gm.le z.2.m,run⟩
theorem VJ{P:cC}{ct:Ct}{b:SS P ct}{σ0 σ:St}{s:AS}{l:ae (AF×AS)}:∀{a:AF} {f:Fl},(a,s)∈l->GF a f->GS s σ->(∀K:Fl->St->Prop,K f σ->b.run σ0 K)->En b σ0 λ o=>o∈l.map Z6
 | .d8,f=>λ h gf gs k=>⟨.none,σ.mem,(.ex .none,s.mem),dN.mpr ⟨_,h,rfl⟩,rfl,gs.mem,k _ ((show f= .d8 from gf)▸⟨rfl,rfl⟩)⟩
 | .ret t,f=>λ h gf gs k=>aD gf λ v gf=>⟨v,σ.mem,(t,s.mem),dN.mpr ⟨_,h,rfl⟩,gf.2,gs.mem,k _ (gf.1▸⟨rfl,rfl⟩)⟩
theorem HK{P:cC}{ct:Ct}{nj w:aC}{b:SS P ct}{ts:ae TV}{tm:ae TO}{outs:ae Out}{vs:ae AV}{m:ae AO}(fo:l8 P)(h:VN nj w b ts tm=af outs)(gv:dH ts vs)(gm:GM tm m):En b ⟨fill ct.aS vs,m⟩ λ o=>o∈outs:=
 ob.u (((wz ts _).trans (X4 tm _)).symm.trans h) λ l e h=>(b.cO fo _ _ e ⟨fill ct.aS vs,m⟩ ⟨xw _ gv,gm⟩).u λ f σ a s hm gf gs k=>(VJ hm gf gs k).imp (am h▸U3 w _ nj)
noncomputable def XO(q:Int×Int):ae (Int×Int):=[(q.1,-1),(0,0),(1,q.2)]
theorem Pj{q:Int×Int}{x:Int}(h0:q.1<=x)(h1:x<=q.2):∃p,p∈XO q/\p.1<=x/\x<=p.2:=
 (Int.lt_trichotomy x 0).elim (λ h=>⟨(q.1,-1),aR,h0,jf h⟩) λ h=>h.elim (λ h=>⟨(0,0),aP _ aR,dX h.symm,dX h⟩) λ h=>⟨(1,q.2),aP _ (aP _ aR),Ib h,h1⟩
noncomputable def Pk:ae (Int×Int)->ae (ae (Int×Int))
 |[]=>[[]]
 |q::r=>(XO q).flatMap λ p=>(Pk r).map λ t=>p::t
theorem GN:∀{q:ae (Int×Int)} {r:ae Int},rb q r->∃p,p∈Pk q/\rb p r
 |[],_=>λ h=>⟨[],be.mpr rfl,h⟩
 |q::qs,_=>λ h=>h.uc (Q:=λ r=>∃p,p∈Pk (q::qs)/\rb p r) λ x r h0 h1 h=>(Pj h0 h1).elim λ p a=>(GN h).elim λ t c=>⟨p::t,vh.mpr ⟨p,a.1,dN.mpr ⟨t,c.1,rfl⟩⟩,x,r,rfl,a.2.1,a.2.2,c.2⟩
noncomputable def TI{α:Type}(f:α->aq (ae Out)):ae α->aq (ae Out)
 |[]=>af []
 |t::r=>ob (f t) λ x=>ob (TI f r) λ y=>af (x++y)
theorem Gp{α:Type}{f:α->aq (ae Out)}:∀{l:ae α} {outs:ae Out},TI f l=af outs->∀t∈l,∃x,f t=af x/\∀o∈x,o∈outs
 |[],_=>λ aa aa h=>bt h bK
 |a::r,outs=>λ h=>ob.u h λ x e h=>ob.u h λ y e2 h=>am h▸aJ.mpr ⟨⟨x,e,λ o=>dA y⟩,λ t ht=>(Gp e2 t ht).imp λ z=> .imp_right λ b o ho=>cD x (b o ho)⟩
noncomputable def Ln(ts:ae TV):aq {c:TV×TV×TV×TV // ts=[c.1,c.2.1,c.2.2.1,c.2.2.2]}:=match ts with
 |[a,b,c,d]=>af ⟨(a,b,c,d),rfl⟩
 |_=>none
noncomputable def adk(t:TV):aq {c:(Int×Int)×ae (Int×Int) // t= .rw (c.1::c.2)}:=match t with
 | .rw (q::r)=>af ⟨(q,r),rfl⟩
 |_=>none
def ZX(f:ae TV->aq (ae Out))(ts:ae TV):aq (ae Out):=ob (Ln ts) λ c=>ob (adk c.1.2.2.2) λ q=>ob (TI (λ p=>f [c.1.1,c.1.2.1,c.1.2.2.1, .rw (q.1.1::p)]) (Pk q.1.2)) λ l=>af (L6 false l)
theorem Rj{f:ae TV->aq (ae Out)}{ts:ae TV}{outs:ae Out}{vs:ae AV}{R:(Out->Prop)->Prop}(hR:∀p q:Out->Prop,(∀o,p o->∃y,q y/\Io o y)->R p->R q)(h:ZX f ts=af outs)(gv:dH ts vs)
  (k:∀ve l,f ve=af l->dH ve vs->R λ o=>o∈l):R λ o=>o∈outs:=
 ob.u h λ c aa h=>ob.u h λ q aa h=>ob.u h λ l e h=>(c.2▸gv:dH [c.1.1,c.1.2.1,c.1.2.2.1,c.1.2.2.2] vs).uc (Q:=λ vs=>(∀ve l,f ve=af l->dH ve vs->R λ o=>o∈l)->R λ o=>o∈outs) (λ v1 r g1 gv=>gv.uc (Q:=λ r=>(∀ve l,f ve=af l->dH ve (v1::r)->R λ o=>o∈l)->R λ o=>o∈outs) λ v2 r g2 gv=>
  gv.u2 (Q:=λ r=>(∀ve l,f ve=af l->dH ve (v1::v2::r)->R λ o=>o∈l)->R λ o=>o∈outs) λ v3 v4 g3 g4 k=>aD (q.2▸g4:GV (.rw (q.1.1::q.1.2)) v4) λ row g4=>aD g4.2 λ i z=>z.elim λ is z=>(GN z.2.2.2).elim λ p hp=>(Gp e p hp.1).elim λ x w=>
   hR _ _ (λ o ho=>am h▸Ap false l o (w.2 o ho)) (k _ x w.1 (.cons g1 (.cons g2 (.cons g3 (.cons ⟨row,g4.1,i,is,z.1,z.2.1,z.2.2.1,hp.2⟩ rfl)))))) k
structure lj where
 f:au
 ct:Ct
 xs:ae bI
 dm:Nat
 wide:aC
 WW:aC
 fz:aC
 nj:aC
 b:(P:cC)->SS P ct
noncomputable def fe(f:au)(ct:Ct)(xs:ae bI)(b:(P:cC)->SS P ct)(dm:Nat:=0)(wide:aC:=false)(WW:aC:=false)(fz:aC:=false)(nj:aC:=false):lj:=⟨f,ct,xs,dm,wide,WW,fz,nj,b⟩
def fi(f i j s:Nat)(dm:Nat:=0)(wide:aC:=false)(WW:aC:=false)(fz:aC:=false)(nj:aC:=false):lj:=⟨f,Bl false false (yZ i j),FZ (yZ i j),dm,wide,WW,fz,nj,bo (Bl false false (yZ i j)) (hH (yZ i j)) s⟩
def FT:ae lj:=[fi 28 4 0 0x1000c1012200a03040010506000050400a01 (fz:=true) (nj:=true),fi 35 5 0 0x20008102541800018581 (fz:=true) (nj:=true),fi 42 6 0 0x8001c6088800a100ca000c2840006e80000c002,fi 49 7 0 0x100065018004040161e0c002,fe 56 d6 (FZ kR) sD,fi 61 9 0 0x20008102040201a30081002c00102040803e3461500840010001100 (fz:=true) (nj:=true),fe 68 cu (FZ d4) k_,fi 242 18 1 0x40010208000 (dm:=1),fi 242 18 1 0x40010208000 (dm:=2),fi 270 26 0 0x20a00101017c0020a08080be002830010105040405f000c005,fi 284 28 0 0x184040405f000c180,fi 298 30 0 0x4001000c0000008000,fi 312 31 1 0x17400300101000604002,fi 319 31 2 0x100001c002000031d38780800a001010000005,fi 326 31 3 0x142030478781001808004000030014200,fi 333 31 4 0x28940283013e3c008120806400882880e180a11e28480101c301be00386037c0230a002840a1400110080060e180df0014002001800200080000a0038602101000e080070010280080c004,fi 396 35 0 0x120306080800000003 (wide:=true),fi 403 36 0 0x4800000,fi 410 37 0 0x40010000000,fi 417 38 0 0x1000406100004a3c0010800104,fi 424 39 0 0x102a0040401f1e00101017c0020a08080be00284000c105040405f0010005040405f0010005,fi 445 41 1 0x5d0098e1e0030300081400b080050300241001004002,fi 452 41 2 0x2538f38780800a001010000005,fi 459 41 3 0x1c281be0000b0e003880810008001c009523c38502a078010000801806f800e140df008c4040000207060128f101c385037c0080000207060128f101c281be003070000507001000b00281aa1e182000a002820008004 (WW:=true),fi 586 50 1 0xbd0802404011,fi 593 50 2 0x6e8000440805e84012,fi 600 50 3 0x8080240e5000044180,fi 607 50 4 0x4b180,fi 621 51 0 0x1000811804000c10302542000600002,fi 626 52 0 0x188104540810004680,fi 633 53 0 0x180001000b00844010801032400c88004010331e1000b0000202007da8f007da1f0644000420018008d938000880004200004002c021020103750000220001080,fi 640 54 0 0x4040391ee1100,fi 647 56 0 0x1ac0013c0006700000e6 (fz:=true) (nj:=true),fi 654 57 0 0x6c01ac003040009e000338304000e6 (fz:=true) (nj:=true),fi 661 58 0 0x80048012002813c0028422003862a0c406280848628144000c54287001409e0000d800c04f000a14004060809e00000e6 (fz:=true) (nj:=true),fe 675 dQ (FZ iZ) kH,fi 696 66 0 0x204000,fi 710 67 1 0x800b0300541002804013,fi 731 68 1 0x300121401b0800d0300641003004017,fi 736 68 2 0x4a01006c480,fi 741 68 3 0x4a81006c480,fi 748 68 4 0xd2004803500780,fi 755 68 5 0xd4004803300780,fi 762 68 6 0x1a8115006600f0600069045001a803c181006c002,fi 769 68 7 0x120e00f00241401e00080d00c100,fi 776 68 8 0x11501b011401ac001006c002,fi 795 70 1 0x2021028300748800407684060009b00141000074089022401c,fi 802 70 2 0x1001c0800002060401d0000004,fi 809 70 3 0x416081810074000,fi 830 72 1 0x70010300441400b080108300801003e0401e,fi 837 72 2 0x3c00000,fe 858 hU (FZ mQ) wi,fi 865 75 0 0x8000000000000002000400000040000400000,fi 872 76 0 0x40210f8290000843e1a3030d1820108781 (fz:=true) (nj:=true),fi 877 77 0 0xc1000e20203001c404057c002843c085001c404060210f001c4040614288001828700100ed0c14001360028400040c44a0c101 (nj:=true),fi 882 78 0 0x102843c0820a001051715300010878201087c54c000421e000421e080421f153000108780026c002 (fz:=true) (nj:=true),fi 887 79 0 0x80028106080860a14304220001b0050300da00285001020504041033c000830a080800278000ce0c1000278000 (fz:=true) (nj:=true),fi 892 80 0 0xc00083040c20004042870e101062200284001c3800c1000306002810118784 (fz:=true) (nj:=true)]
def FJ:ae lj:=[fe 256 mo (FZ qj) pZ,fe 263 ml (FZ qi) pY,fe 529 gX (FZ jW) jK,fe 536 g7 (FZ l4) lT,fe 543 cn (FZ gK) kG,fe 550 cJ (FZ e7) iE,fe 557 fU (FZ iI) iD,fe 564 cw (FZ f6) jL]
def FL:ae lj:=[fe 682 gJ (FZ gY) l_,fe 689 bW (FZ d0) l9]
def FA:ae lj:=FT++FJ++FL
noncomputable def P0(prog:aK)(w:bw):cC where
 prog:=prog
 w:=w
 K:=[]
 gl:=[]
 at_:=λ aa aa=>false
 Φ:=λ aa=>False
 d:=1
 j:=true
 mono:=λ aa aa aa h=>h
 base:=λ aa h=>h.elim
 glob:=λ aa aa aa aa h=>h.elim
 attr:=λ aa aa h=>nomatch h
 Jx:=λ aa h=>h.elim
 blt:=[]
 yJ:=λ aa h=>by cases h
 init:=λ aa=>none
 E4:=λ aa aa h=>nomatch h
 tV:=λ aa aa=>none
 Fk:=λ aa aa aa h=>nomatch h
 cB:=λ aa aa aa=>none
noncomputable def Ub(K:eJ)(fd:dR):aC:=xb fd.defaults λ T=>pa (K.lookup T) λ o=>No o (y4 [0])
theorem Pp{K:eJ}{fd:dR}(h:Ub K fd=true):∃T o t n,fd.defaults= .ref T/\K.lookup T=af o/\o.data= .seq #[.int 0 t] n:=
 (lE h).elim λ T h=>ge h.2 λ o e h'=>(AM h').elim λ vs z=>z.elim λ n z=>aD (vA z.2) λ t w=>w.elim λ r w=>⟨T,o,t,n,h.1,e,z.1.trans (ah (t_ · n) (uP.mp (w.1.trans (ah (eD 0 t::·) w.2))))⟩
def Cd(K:eJ)(e:lj):aC:=X7 K e.ct e.xs e.f&&(nT (fdOf K e.f).params e.xs&&aY (aT e.dm 0) (Za (fdOf K e.f).defaults) (Ub K (fdOf K e.f)&&(e.xs==Nz)))
theorem Tu(fd:dR)(vs:ae ak):FA.map (λ e=>bindArgs (Yb fd e.xs .none) ⟨vz e.xs vs,[]⟩)=FA.map λ e=>pure (e.xs.zip (vz e.xs vs)):=by kernel_rfl
theorem W1{e:lj}(he:e∈FA):RS e.xs:=λ fd vs=>iS.mp (Tu fd vs) e he
structure WK(prog:aK)(w:bw) where
 K:eJ
 tabs:tabsOk K TT=true
 fns:FA.all (Cd K)=true
 abB:FA.map (λ e=>(fdOf K e.f).body)=FA.map (λ e=>fZ (e.b (P0 prog w)).bA)
abbrev x4:=au->ae TV->ae TO->aq (ae Out)
def PV{prog:aK}{w:bw}(W:WK prog w)(X:BM->Prop)(hX:∀G G',dG G G'->X G->X G')(d:Nat)(j:aC)(cB:x4):cC:=Y2 prog w W.K TT W.tabs X hX d j cB
theorem Tx(P Q:cC):FA.map (λ e=>(e.b P).bA)=FA.map (λ e=>(e.b Q).bA):=by kernel_rfl
section
variable{prog:aK}{w:bw}(W:WK prog w){X:BM->Prop}{hX:∀G G',dG G G'->X G->X G'}{d:Nat}{j:aC}{cB:x4}
theorem J2:FT.all (λ e=>(e.b (PV W X hX (d+1) j cB)).ch)=true:=by kernel_rfl
theorem RT{e:lj}(he:e∈FT):e.ct.tb=false:=by
 have h:FT.all (λ e=>!e.ct.tb)=true:=by kernel_rfl
 simpa using aZ.mp h e he
theorem Tv:FJ.all (λ e=>(e.b (PV W X hX (d+1) true cB)).ch)=true:=by kernel_rfl
noncomputable def B_(dm:Nat):ae AV:=aY (aT dm 1) [.int 0] []
theorem Tw:FL.all (λ e=>(e.b (PV W X hX (d+1) j cB)).ch)=true:=by kernel_rfl
theorem Et{e:lj}(bd:RS e.xs)(h0:aT e.dm 0=true)(hf:Cd W.K e=true)(hb:(fdOf W.K e.f).body=fZ (e.b (PV W X hX d j cB)).bA):FnAt (PV W X hX d j cB) e.ct e.f e.xs [] (e.b (PV W X hX d j cB)).bA:=
 have h1:=aF hf
 have h2:=aF h1.2
 Ae (P:=PV W X hX d j cB) h1.1 hb λ s vals aa l=>sY bd h2.1 (ME ((ah (aY · _ _) h0).symm.trans h2.2)) s vals l
theorem T9{n:Nat}(h:aT n 1=true):B_ n=[.int 0]:=ah (aY · _ _) h
theorem K3{n:Nat}(h:aT n 1=false):B_ n=[]:=ah (aY · _ _) h
theorem z6{e:lj}(he:e∈FA):∃dv,(∀G ρ,bJ G ρ (B_ e.dm) dv)/\FnAt (PV W X hX d j cB) e.ct e.f e.xs dv (e.b (PV W X hX d j cB)).bA:=by
 have hb:=(iS.mp W.abB e he).trans (ah fZ (iS.mp (Tx (P0 prog w) (PV W X hX d j cB)) e he))
 have hf:=aZ.mp W.fns e he
 have h1:=aF hf
 have h2:=aF h1.2
 cases q:aT e.dm 0 with
 |true=>exact⟨[],λ G ρ=>(K3 (ah (aT · 1) (aL q))).symm▸bJ.nil,Et W (W1 he) q hf hb⟩
 |false=>
  have h3:=aF ((ah (aY · _ _) q).symm.trans h2.2)
  have ex:e.xs=Nz:=a_.mp h3.2
  have h4:nT (fdOf W.K e.f).params Nz=true:=ex▸h2.1
  refine(Pp h3.1).elim λ T z=>z.elim λ o z=>z.elim λ t z=>z.elim λ n z=>?_
  cases q2:aT e.dm 1 with
  |true=>exact⟨[.int 0 t],λ G ρ=>(T9 q2).symm▸bJ.cons VR.mH bJ.nil,Ae (P:=PV W X hX d j cB) h1.1 hb λ s vals hK l=>ex.symm▸EQ h4 z.1 s (hK _ _ z.2.1) z.2.2 vals (eL (l.trans (ah f4 ex)))⟩
  |false=>exact⟨[],λ G ρ=>(K3 q2).symm▸bJ.nil,Ae (P:=PV W X hX d j cB) h1.1 hb λ s vals hK l=>ex.symm▸(bS vals).symm▸K7 h4 z.1 s (hK _ _ z.2.1) z.2.2 vals (l.trans (ah f4 ex))⟩
end
noncomputable def bR:x4:=λ aa aa aa=>none
def PQ{prog:aK}{w:bw}(W:WK prog w)(X:BM->Prop)(hX:∀G G',dG G G'->X G->X G')(d:Nat):cC:=PV W X hX d true bR
section
variable{prog:aK}{w:bw}{W:WK prog w}{X:BM->Prop}{hX:∀G G',dG G G'->X G->X G'}{d:Nat}{j:aC}{cB:x4}
theorem at_of{i:Nat}{e:lj}(h:FJ[i]?=af e)(h0:e.dm=0):FnAt (PV W X hX d j cB) e.ct e.f e.xs [] (e.b (PV W X hX d j cB)).bA:=
 (z6 W (X:=X) (hX:=hX) (d:=d) (j:=j) (cB:=cB) (dA FL (cD FT (dB h)))).elim λ dv z=>
  (h0▸z.1 (λ aa=>none) []:bJ (λ aa=>none) [] (B_ 0) dv).u0 (Q:=λ dv=>FnAt (PV W X hX d j cB) e.ct e.f e.xs dv (e.b (PV W X hX d j cB)).bA->FnAt (PV W X hX d j cB) e.ct e.f e.xs [] (e.b (PV W X hX d j cB)).bA) id z.2
theorem zS:FnAt (PQ W X hX d) mo 256 ["bins","at"] [] (pZ (PQ W X hX d)).bA:=at_of (i:=0) rfl rfl
theorem zR:FnAt (PQ W X hX d) ml 263 ["bins","at"] [] (pY (PQ W X hX d)).bA:=at_of (i:=1) rfl rfl
theorem qW:FnAt (PQ W X hX d) gX 529 ["self"] [] (jK (PQ W X hX d)).bA:=at_of (i:=2) rfl rfl
theorem tH:FnAt (PQ W X hX d) g7 536 ["self","bins","at","bit"] [] (lT (PQ W X hX d)).bA:=at_of (i:=3) rfl rfl
theorem rV:FnAt (PQ W X hX d) cn 543 ["self"] [] (kG (PQ W X hX d)).bA:=at_of (i:=4) rfl rfl
theorem oR:FnAt (PQ W X hX d) cJ 550 ["self"] [] (iE (PQ W X hX d)).bA:=at_of (i:=5) rfl rfl
theorem oQ:FnAt (PQ W X hX d) fU 557 ["self"] [] (iD (PQ W X hX d)).bA:=at_of (i:=6) rfl rfl
theorem qX:FnAt (PQ W X hX d) cw 564 ["self"] [] (jL (PQ W X hX d)).bA:=at_of (i:=7) rfl rfl
theorem p7{i:Nat}{e:lj}(h:FJ[i]?=af e):(e.b (PQ W X hX (d+1))).ch=true:=aZ.mp (Tv W (X:=X) (hX:=hX) (d:=d) (cB:=bR)) e (dB h)
theorem ye:(pZ (PQ W X hX (d+1))).ch=true:=p7 (i:=0) rfl
theorem yd:(pY (PQ W X hX (d+1))).ch=true:=p7 (i:=1) rfl
theorem p5:(jK (PQ W X hX (d+1))).ch=true:=p7 (i:=2) rfl
theorem sF:(lT (PQ W X hX (d+1))).ch=true:=p7 (i:=3) rfl
theorem q6:(kG (PQ W X hX (d+1))).ch=true:=p7 (i:=4) rfl
theorem og:(iE (PQ W X hX (d+1))).ch=true:=p7 (i:=5) rfl
theorem n_:(iD (PQ W X hX (d+1))).ch=true:=p7 (i:=6) rfl
theorem p6:(jL (PQ W X hX (d+1))).ch=true:=p7 (i:=7) rfl
noncomputable def XQ(dm:Nat):ae TV:=aY (aT dm 1) [.ex (.int 0)] []
theorem T_(dm:Nat):dH (XQ dm) (B_ dm):=by
 unfold XQ B_
 cases aT dm 1
 ·rfl
 ·exact⟨_,[],rfl,rfl,rfl⟩
theorem dH.app:∀{ts ve:ae TV} {us rB:ae AV},dH ts us->dH ve rB->dH (ts++ve) (us++rB)
 |[],ve,_,rB=>λ h g=>h.u0 (Q:=λ us=>dH ve (us++rB)) g
 |t::ts,ve,_,rB=>λ h g=>h.uc (Q:=λ us=>dH (t::ts++ve) (us++rB)) λ aa aa a h=> .cons a (dH.app h g)
def fzO(n:Nat)(o:Out):aq Out:=ob (toAV o.1) λ v=>ob (toAOs o.2) λ m=>ob (Oe n v.1 m.1) λ r=>ob (MI r.2) λ t=>af (.ex r.1,t.1)
abbrev fzL(n:Nat):ae Out->aq (ae Out):=i5 (fzO n)
theorem wU{α β:Type}{g:α->aq β}:∀{l:ae α} {r:ae β},i5 g l=af r->∀a∈l,∃b,b∈r/\g a=af b
 |[],_=>λ aa aa h=>bt h bK
 |a::l,r=>λ h=>ob.u h λ y e h=>ob.u h λ ys e2 h=>am h▸aJ.mpr ⟨⟨y,aR,e⟩,λ x hx=>(wU e2 x hx).imp λ aa=> .imp_left (aP _)⟩
theorem DW.fz{P:cC}{f:au}{vs:ae AV}{m:ae AO}{outs SZ:ae Out}(h:DW P f vs m outs)(e:fzL m.length outs=af SZ):DW P f vs m SZ:=
 h.elim λ v h=>h.elim λ m' h=>h.1.elim λ o z=>(wU e o z.1).elim λ o' y=>ob.u y.2 λ v0 aa e=>ob.u e λ m0 aa e=>ob.u e λ r hr e=>ob.u e λ t aa e=>
  ⟨r.1,r.2,⟨o',y.1,am e▸⟨rfl,Dc t.2⟩⟩,WC.fz (h.2.mono λ v' Vi q=>⟨r,(ah (λ x=>Oe m.length x Vi) (q.1.trans (v0.2 _ z.2.1))).trans ((ah (Oe m.length v0.1) (q.2.trans (m0.2 m' m' z.2.2.len.symm z.2.2.get))).trans hr),rfl,rfl⟩)⟩
def fzC(b:aC)(n:Nat)(x:aq (ae Out)):aq (ae Out):=aY b (ob x (fzL n)) x
def S7(P:cC)(e:lj)(ts:ae TV)(tm:ae TO):aq (ae Out):=aY (aT (ts++XQ e.dm).length e.xs.length) (aY e.WW (ZX (λ ts=>VN false false (e.b P) ts tm) (ts++XQ e.dm)) (VN e.nj e.wide (e.b P) (ts++XQ e.dm) tm)) none
def ZH(P:cC)(e:lj)(ts:ae TV)(tm:ae TO):aq (ae Out):=fzC e.fz tm.length (S7 P e ts tm)
noncomputable def Lh(P:cC):ae lj->x4
 |[],_,_,_=>none
 |e::r,f,ts,tm=>aY (aT e.f f) (oe (ZH P e ts tm) (Lh P r f ts tm)) (Lh P r f ts tm)
section
variable{P:cC}(hP:P=PV W X hX (d+1) j cB)(fo:l8 P)
include hP fo
theorem Dv{e:lj}(he:e∈FT){ts:ae TV}{tm:ae TO}{outs:ae Out}(h:S7 P e ts tm=af outs){vs:ae AV}{m:ae AO}(gv:dH ts vs)(gm:GM tm m):DW P.up e.f vs m outs:=
 condB h (λ hl h=>have gv':=gv.app (T_ e.dm); have key:En (e.b P) ⟨fill e.ct.aS (vs++B_ e.dm),m⟩ (λ o=>o∈outs):=condB h (λ aa h=>Rj (λ aa aa=>En.imp) h gv' λ aa aa e1 g1=>HK fo e1 g1 gm) λ aa h=>HK fo h gv' gm
  (by
   subst hP
   rcases key with⟨v,m',o,ho,g1,g2,r⟩
   exact(z6 W (X:=X) (hX:=hX) (d:=d+1) (j:=j) (cB:=cB) (dA FL (dA FJ he))).elim λ dv z=>⟨v,m',⟨o,ho,g1,g2⟩,WC.fn z.2 z.1 (aZ.mp (J2 W) e he) (RT he) ((ah (vs.length+·) (z.1 (λ aa=>none) []).length).trans (bj.symm.trans (gv'.len.trans (aL hl)))) r⟩)) λ aa h=>cm h
theorem Q5{e:lj}(he:e∈FT){ts:ae TV}{tm:ae TO}{outs:ae Out}(h:ZH P e ts tm=af outs){vs:ae AV}{m:ae AO}(gv:dH ts vs)(gm:GM tm m):DW P.up e.f vs m outs:=
 condB h (λ aa h=>ob.u h λ l e1 e2=>(Dv hP fo he e1 gv gm).fz (gm.len▸e2)) λ aa h=>Dv hP fo he h gv gm
theorem GX:∀{l:ae lj},(∀e∈l,e∈FT)->∀{f:au} {ts:ae TV} {tm:ae TO} {outs:ae Out},Lh P l f ts tm=af outs->∀{vs:ae AV} {m:ae AO},dH ts vs->GM tm m->DW P.up f vs m outs
 |[],_,_,_,_,_=>λ h=>cm h
 |e::r,hl,f,ts,tm,outs=>λ h vs m gv gm=>have k:=aJ.mp hl; have ih h:=GX k.2 (f:=f) (ts:=ts) (tm:=tm) (outs:=outs) h gv gm
  condB h (λ q h=>oe.v h (λ h=>aL q▸Q5 hP fo k.1 h gv gm) ih) λ aa h=>ih h
end
theorem DW.le{P Q:cC}(x:P.Le Q){f:au}{vs:ae AV}{m:ae AO}{outs:ae Out}(h:DW P f vs m outs):DW Q f vs m outs:=h.imp λ aa=> .imp λ aa=> .imp_right (WC.up x)
end
noncomputable def s7:ae Nat->Nat->aC
 |[],_=>true
 |i::r,n=>eK i n&&(r.all (λ j=>!aT i j)&&s7 r n)
theorem qI:∀{l:ae Nat} {n:Nat},s7 l n=true->l.Nodup/\∀i∈l,i < n
 |[],_=>λ aa=>⟨gC,λ aa h=>bt h bK⟩
 |i::r,n=>λ h=>have h:=aF h; have h':=aF h.2; have z:=qI h'.2
  ⟨dU.mpr ⟨λ hm=>ay ((ah (!·) (uS i)).symm.trans (aZ.mp h'.1 i hm)),z.1⟩,aJ.mpr ⟨lU h.1,z.2⟩⟩
abbrev OC(M:ae AO)(sel:ae Nat)(mem:ae AO):Prop:=i5 (bM M) sel=af (mem.map (ly (eW sel M.length)))
theorem WC.use{P:cC}{f:au}{dx qY:ae AV}{mem:ae AO}{W8 K:AV->ae AO->Prop}(sel:ae Nat){M:ae AO}(h:WC P f dx mem W8)(ha:qY=ew (eW sel M.length) dx)(vH:s7 sel M.length=true)(len:sel.length=mem.length)
  (hm:OC M sel mem) (k:∀v m,W8 v m->K (eA (eW sel M.length) v) (upd (eW sel M.length) sel m M)):WC P f qY M K:=
 ha▸(WC.Cc h sel M (qI vH).1 len λ i j ao h1 h2=>(vF hm i _ (eT.trans (ah (ef _) h2))).elim λ x w=>(am (w.1.symm.trans h1):x=j)▸(eO _ _).symm.trans w.2).mono λ v m z=>z.elim λ pq z=>z.elim λ mem' z=>z.2.1▸z.2.2.1▸k _ _ z.1
theorem WC.FW{P:cC}{f:au}{dx qY:ae AV}{mem:ae AO}{ti:AV}{C6:ae AO}{K:AV->ae AO->Prop}(sel:ae Nat){M:ae AO}(h:WC P f dx mem (λ v m=>v=ti/\m=C6))(ha:qY=ew (eW sel M.length) dx)(vH:s7 sel M.length=true)(len:sel.length=mem.length)
  (hm:OC M sel mem) (k:K (eA (eW sel M.length) ti) (upd (eW sel M.length) sel C6 M)):WC P f qY M K:=
 WC.use sel h ha vH len hm λ v m z=>z.1▸z.2▸k
theorem tQ:∀{l:ae Int} {i:Nat},i < l.length->intAt l i∈l
 |_::_,0,_=>aR
 |_::r,i+1,h=>aP _ (tQ (l:=r) (by simpa using h))
theorem xj:∀(l:ae Int) (i:Nat) (v:Int),(setInt l i v).length=l.length:=λ l i v=>by rw[qJ]; simp
theorem xk{l:ae Int}{i:Nat}{v x:Int}(h:x∈setInt l i v):x=v\/x∈l:=by
 rw[qJ] at h
 exact(List.mem_or_eq_of_mem_set h).symm
structure ky(n:Nat)(ss ns:ae Int):Prop where
 s:ss.length=n
 n:ns.length=n
 so:∀x∈ss,0<=x/\x < 114
 no:∀x∈ns,x=0\/x=1
structure OA(r:ae Int):Prop where
 n:r.length=4
 l0:1<=intAt r 0
 l1:intAt r 0<=23314
 a:0<=intAt r 1/\intAt r 1 < 114
 b:0<=intAt r 2/\intAt r 2 < 114
def adj(r:ae Int):aC:=(aT r.length 4)&&(decide (1<=intAt r 0)&&(decide (intAt r 0<=23314)&&(decide (0<=intAt r 1/\intAt r 1 < 114)&&decide (0<=intAt r 2/\intAt r 2 < 114))))
theorem HJ:(WE.all adj&&aT WE.length 114)=true:=by decide+kernel
theorem zs:∀{l:ae (ae Int)} {i:Nat},i < l.length->rowAt l i∈l
 |_::_,0,_=>aR
 |_::r,i+1,h=>aP _ (zs (l:=r) (by simpa using h))
theorem OB:WE.length=114:=aL (aF HJ).2
theorem VM{x:Int}(h:0<=x/\x < 114):OA (rowAt WE x.toNat):=
 have z:=aF (aZ.mp (aF HJ).1 _ (zs (ir ((mZ h.1).mpr h.2) OB.symm)))
 have y:=aF z.2; have x:=aF y.2; have w:=aF x.2
 ⟨aL z.1,bg y.1,bg x.1,bg w.1,bg w.2⟩
theorem nd{p:Prop}[fF p]{k:Prop}(q:p)(h:k):need p k:=by unfold need; rw[cz q]; exact h
theorem br{p:Prop}[fF p]{a b:Prop}(h1:p->a)(h2:¬p->b):aY (decide p) a b:=by
 by_cases q:p
 ·rw[cz q]; exact h1 q
 ·rw[dj q]; exact h2 q
noncomputable def g5{α:Type}(R:(α->Prop)->Prop)(I:α->Prop):Prop:=∃a,I a/\∀K:α->Prop,K a->R K
section
variable{α β:Type}{I:α->Prop}
noncomputable abbrev cM(i:Int)(n:Nat):Prop:=0<=i/\i < (n:Int)/\i < 4611686018427387904
theorem EC{i:Int}{n L:Nat}(h0:0<=i)(h1:i < n)(hb:n < 1000)(e:L=n):cM i L:=⟨h0,e▸h1,dr h1 (dr (mY.mpr hb) (by decide))⟩
theorem g5.ret{a:α}(h:I a):g5 (λ K=>K a) I:=⟨a,h,λ aa k=>k⟩
theorem g5.nd{p:Prop}[fF p]{R:(α->Prop)->Prop}(q:p)(h:g5 R I):g5 (λ K=>need p (R K)) I:=let ⟨a,i,k⟩:=h; ⟨a,i,λ K z=>Mine.nd q (k K z)⟩
theorem g5.br{b:aC}{A B:(α->Prop)->Prop}(h1:b=true->g5 A I)(h2:b=false->g5 B I):g5 (λ K=>aY b (A K) (B K)) I:=by
 cases b with
 |true=>exact h1 rfl
 |false=>exact h2 rfl
theorem g5.TZ{p:Prop}[fF p]{A B:(α->Prop)->Prop}(h1:p->g5 A I)(h2:¬p->g5 B I):g5 (λ K=>aY (decide p) (A K) (B K)) I:=
 g5.br (λ h=>h1 (bg h)) λ h=>h2 (oN h)
end
noncomputable def fy(P:cC)(f:au)(dx:ae AV)(mem:ae AO)(I:AV->ae AO->Prop):Prop:=∃v m,I v m/\WC P f dx mem λ v' m'=>v'=v/\m'=m
theorem fy.fn{P:cC}{ct:Ct}{f:au}{xs:ae bI}{dv:ae ak}{da:ae AV}{b:SS P ct}{dx:ae AV}{mem:ae AO}{I:AV->ae AO->Prop}(H:FnAt P ct f xs dv b.bA)(hd:∀G ρ,bJ G ρ da dv)(ch:b.ch=true)(LQ:ct.tb=false)
  (hl:dx.length+dv.length=xs.length) (h:g5 (λ K=>b.run ⟨fill ct.aS (dx++da),mem⟩ (iH λ v m=>K (v,m))) λ a=>I a.1 a.2):fy P.up f dx mem I:=by
 obtain⟨⟨v,m⟩,i,k⟩:=h
 exact⟨v,m,i,WC.fn H hd ch LQ hl (k (λ a=>a.1=v/\a.2=m) ⟨rfl,rfl⟩)⟩
theorem g5.yL{P:cC}{f:au}{dx:ae AV}{mem:ae AO}{J:AV->ae AO->Prop}{α:Type}{I:α->Prop}{C:AV->ae AO->(α->Prop)->Prop}(h:fy P f dx mem J)
  (k:∀v m,J v m->g5 (C v m) I):g5 (λ K=>WC P f dx mem λ v m=>C v m K) I:=by
 obtain⟨v,m,j,z⟩:=h
 obtain⟨a,i,c⟩:=k v m j
 exact⟨a,i,λ K hk=>z.mono λ v' m' e=>by obtain⟨rfl,rfl⟩:=e; exact c K hk⟩
theorem fy.at{P:cC}{f:au}{dx qY:ae AV}{mem:ae AO}{J I:AV->ae AO->Prop}(sel:ae Nat){M:ae AO}(h:fy P f dx mem J)(ha:qY=ew (eW sel M.length) dx)(vH:s7 sel M.length=true)(len:sel.length=mem.length)
  (hm:OC M sel mem) (k:∀v m,J v m->bB sel.length m.length=true/\I (eA (eW sel M.length) v) (upd (eW sel M.length) sel m M)):fy P f qY M I:=by
 obtain⟨v,m,j,z⟩:=h
 obtain⟨l,i⟩:=k v m j
 exact⟨_,_,i,WC.FW sel z ha vH len hm ⟨rfl,rfl⟩⟩
theorem fy.use{P:cC}{f:au}{dx qY:ae AV}{mem:ae AO}{J I:AV->ae AO->Prop}(sel:ae Nat){M:ae AO}(h:fy P f dx mem J)(ha:qY=ew (eW sel M.length) dx)(vH:s7 sel M.length=true)(len:sel.length=mem.length)
  (hm:OC M sel mem) (k:∀v m,J v m->I (eA (eW sel M.length) v) (upd (eW sel M.length) sel m M)):fy P f qY M I:=h.elim λ v z=>z.elim λ m z=>⟨_,_,k v m z.1,WC.FW sel z.2 ha vH len hm ⟨rfl,rfl⟩⟩
def uN(t:St->(aC->St->Prop)->Prop)(b:St->(Fl->St->Prop)->Prop)(σ:St)(K:Sum St (Fl×St)->Prop):Prop:=
 t σ λ c aI=>aY c (b aI λ f aW=>sj f aW (λ dC=>K (.inl dC)) λ f b8=>K (.inr (f,b8))) (K (.inr (.d8,aI)))
noncomputable def WR(I:Nat->St->Prop)(J:Fl×St->Prop)(n:Nat):Sum St (Fl×St)->Prop
 | .inl σ=>∃m,m < n/\I m σ
 | .inr a=>J a
def wGo(t:St->(aC->St->Prop)->Prop)(b:St->(Fl->St->Prop)->Prop)(N:Nat)(K:Fl×St->Prop):Sum St (Fl×St)->Prop
 | .inl σ=>l6 t b N σ λ f b8=>K (f,b8)
 | .inr a=>K a
theorem g5.while{t:St->(aC->St->Prop)->Prop}{b:St->(Fl->St->Prop)->Prop}{I:Nat->St->Prop}{J:Fl×St->Prop}(step:∀n σ,I n σ->g5 (uN t b σ) (WR I J n))(n:Nat):∀σ:St,I n σ->g5 (λ K=>∃N,l6 t b N σ λ f b8=>K (f,b8)) J:=
 n.strongRecOn (motive:=λ n=>∀σ:St,I n σ->g5 (λ K=>∃N,l6 t b N σ λ f b8=>K (f,b8)) J) λ n ih σ hi=>(step n σ hi).elim λ r z=>match r,z with
  | .inl b8,z=>z.1.elim λ m y=>(ih m y.1 b8 y.2).imp λ a x=>⟨x.1,λ K hk=>(x.2 K hk).elim λ N h=>⟨N+1,z.2 (wGo t b N K) h⟩⟩
  | .inr a,z=>⟨a,z.1,λ K hk=>⟨1,z.2 (wGo t b 0 K) hk⟩⟩
theorem g5.eqv{α:Type}{I:α->Prop}{R R':(α->Prop)->Prop}(e:∀K,R K=R' K)(h:g5 R' I):g5 R I:=h.imp λ a=> .imp_right λ k K z=>(e K).mpr (k K z)
def pL{P:cC}{ct:Ct}(b:SS P ct)(K:Fl->St->Prop)(f:Fl)(σ:St):Prop:=sj f σ (λ σ=>b.run σ K) K
theorem fy.go{P:cC}{ct:Ct}{f:au}{xs:ae bI}{b:SS P ct}{dx:ae AV}{mem:ae AO}{I:AV->ae AO->Prop}(H:FnAt P ct f xs [] b.bA)(ch:b.ch=true)(LQ:ct.tb=false)(hl:dx.length=xs.length){R:(AV×ae AO->Prop)->Prop}
  (e:∀K,b.run ⟨fill ct.aS (dx++[]),mem⟩ (iH λ v m=>K (v,m))=R K) (h:g5 R λ a=>I a.1 a.2):fy P.up f dx mem I:=
 fy.fn H (λ aa aa=>bJ.nil) ch LQ hl (g5.eqv e h)
theorem g5.and{α:Type}{I:α->Prop}{p:Prop}{R:(α->Prop)->Prop}(q:p)(h:g5 R I):g5 (λ K=>p/\R K) I:=let ⟨a,i,k⟩:=h; ⟨a,i,λ K z=>⟨q,k K z⟩⟩
theorem g5.Xl{α:Type}{I:α->Prop}{p:Prop}{R:(α->Prop)->Prop}(q:p)(h:g5 R I):g5 (λ K=>R K/\p) I:=let ⟨a,i,k⟩:=h; ⟨a,i,λ K z=>⟨k K z,q⟩⟩
theorem g5.loop{α:Type}{I:α->Prop}{t:St->(aC->St->Prop)->Prop}{b:St->(Fl->St->Prop)->Prop}{σ:St}{J:Fl×St->Prop}{C:(α->Prop)->Fl->St->Prop}(h:g5 (λ K=>∃N,l6 t b N σ λ f b8=>K (f,b8)) J)(hc:∀r,J r->g5 (λ K=>C K r.1 r.2) I):g5 (λ K=>∃N,l6 t b N σ (C K)) I:=
 h.elim λ r z=>(hc r z.1).imp λ a y=>⟨y.1,λ K k=>z.2 (λ x=>C K x.1 x.2) (y.2 K k)⟩
noncomputable def Tq(n:Int)(len k:Nat):Prop:=(0<=n/\n < len/\n < 4611686018427387904/\k=n.toNat)\/(n= -1/\0 < len/\k=len - 1)
theorem g5.tJ{α:Type}{I:α->Prop}{n:Int}{len:Nat}{C:Nat->(α->Prop)->Prop}{k:Nat}(h:Tq n len k)(hc:g5 (C k) I):g5 (λ K=>tJ n len λ k=>C k K) I:=
 hc.imp λ a z=>⟨z.1,λ K y=>h.elim (λ h=> .pos h.1 h.2.1 h.2.2.1 (h.2.2.2▸z.2 K y)) λ h=> .last h.1 h.2.1 (h.2.2▸z.2 K y)⟩
theorem Mx{a b:Int}(ha:a.natAbs < 2 ^ 60)(hb:b.natAbs < 2 ^ 60):jH a b:=JI (ty.mpr ha) (ty.mpr hb) (by decide)
theorem nf{A B:Prop}(e:A=B)(h:B):A:=e.mpr h
theorem WC.known{P:cC}{f:au}{dx:ae AV}{mem C6:ae AO}{ti:AV}{K:AV->ae AO->Prop}(h:WC P f dx mem λ v m=>v=ti/\m=C6)(k:K ti C6):WC P f dx mem K:=h.mono λ aa aa q=>q.1.symm▸q.2.symm▸k
theorem sy{α:Type}{P:α->Prop}:∀x∈([]:ae α),P x:=λ aa h=>nomatch h
theorem all2{α:Type}{P:α->Prop}{a:α}{l:ae α}(h:P a)(k:∀x∈l,P x):∀x∈a::l,P x:=aJ.mpr ⟨h,k⟩
theorem r_{α β:Type}{f g:α->β}{l:ae α}(h:l.map f=l.map g):∀a∈l,f a=g a:=iS.mp h
section
variable{prog:aK}{w:bw}{W:WK prog w}{X:BM->Prop}{hX:∀G G',dG G G'->X G->X G'}
noncomputable def zU(ss ns:ae Int):ae AO:=[.ns [0,1] [.own 2, .own 3], .inst 245 0, .il ss, .il ns]
def xe(ss:ae Int)(i:Int):ae Int:=rowAt WE (intAt ss i.toNat).toNat
inductive BE(n:Nat)(M:ae Int->ae Int->ae AO)(v:AV)(m:ae AO):Prop
 |mk (ss ns:ae Int) (hv:v= .none) (hm:m=M ss ns) (B:ky n ss ns)
theorem BE.u{n:Nat}{M:ae Int->ae Int->ae AO}{v:AV}{m:ae AO}{G:AV->ae AO->Prop}(h:BE n M v m)(k:∀ss ns,ky n ss ns->G .none (M ss ns)):G v m:=BE.casesOn (motive:=λ aa=>G v m) h λ ss ns hv hm B=>hv▸hm▸k ss ns B
theorem OA.ix{l:ae Int}(r:OA l){k:Int}(h0:0<=k)(h1:k < 4):cM k l.length:=EC (n:=4) h0 h1 (by decide) r.n
theorem ky.set{n:Nat}{ss ns:ae Int}(B:ky n ss ns)(k:Nat){v:Int}(h:0<=v/\v < 114):ky n (setInt ss k v) ns:=⟨(xj ..).trans B.s,B.n,λ x hx=>(xk hx).elim (λ e=>e▸h) (B.so x),B.no⟩
theorem ky.qk{n:Nat}{ss ns:ae Int}(B:ky n ss ns)(k:Nat){v:Int}(h:v=0\/v=1):ky n ss (setInt ns k v):=⟨B.s,(xj ..).trans B.n,B.so,λ x hx=>(xk hx).elim (λ e=>e▸h) (B.no x)⟩
structure Oo(n:Nat)(ss ns:ae Int)(i:Int):Prop where
 B:ky n ss ns
 b:cM i ss.length
 c:cM i ns.length
 s:cM (intAt ss i.toNat) 114
 r:OA (xe ss i)
 v:1 - intAt ns i.toNat=0\/1 - intAt ns i.toNat=1
theorem ky.p{n:Nat}{ss ns:ae Int}{i:Int}(B:ky n ss ns)(h0:0<=i)(h1:i < n)(hb:n < 1000):Oo n ss ns i:=
 have lt:i.toNat < n:=(mZ h0).mpr h1
 have s:=B.so _ (tQ (B.s.symm▸lt))
 ⟨B,EC h0 h1 hb B.s,EC h0 h1 hb B.n,⟨s.1,s.2,dr s.2 (by decide)⟩,VM s,(B.no _ (tQ (B.n.symm▸lt))).elim (λ e=> .inr (e.symm▸rfl)) λ e=> .inl (e.symm▸rfl)⟩
theorem Mv{d:Nat}{n:Nat}{ss ns:ae Int}{i:Int}(p:Oo n ss ns i):fy (PQ W X hX (d+2)) 256 [.own 1, .int i] (zU ss ns) (BE n zU):=
 fy.go (P:=PQ W X hX (d+1)) zS ye rfl rfl (R:=λ K=>need (cM i ss.length) (need (cM (intAt ss i.toNat) 114) (need (cM 2 (xe ss i).length) (need (cM i ss.length) (K (.none,zU (setInt ss i.toNat (intAt (xe ss i) 2)) ns)))))) (λ K=>by kernel_rfl)
  (.nd p.b (.nd p.s (.nd (p.r.ix (by decide) (by decide)) (.nd p.b (.ret ⟨_,_,rfl,rfl,p.B.set _ p.r.b⟩)))))
theorem Mj{d:Nat}{n:Nat}{ss ns:ae Int}{i:Int}(p:Oo n ss ns i):fy (PQ W X hX (d+2)) 263 [.own 1, .int i] (zU ss ns) (BE n zU):=
 fy.go (P:=PQ W X hX (d+1)) zR yd rfl rfl (R:=λ K=>need (cM i ss.length) (need (cM (intAt ss i.toNat) 114) (need (cM 3 (xe ss i).length)
   (aY (intAt (xe ss i) (gS 3)==1) (need (cM i ns.length) (need (cM i ns.length) (need (cM 1 (xe ss i).length) (need (cM i ss.length) (K (.none,zU (setInt ss i.toNat (intAt (xe ss i) 1)) (setInt ns i.toNat (1 - intAt ns i.toNat))))))))
    (need (cM 1 (xe ss i).length) (need (cM i ss.length) (K (.none,zU (setInt ss i.toNat (intAt (xe ss i) 1)) ns)))))))) (λ K=>by kernel_rfl)
  (.nd p.b (.nd p.s (.nd (p.r.ix (by decide) (by decide)) (.br (λ aa=> .nd p.c (.nd p.c (.nd (p.r.ix (by decide) (by decide)) (.nd p.b (.ret ⟨_,_,rfl,rfl,(p.B.set _ p.r.a).qk _ p.v⟩)))))
   λ aa=> .nd (p.r.ix (by decide) (by decide)) (.nd p.b (.ret ⟨_,_,rfl,rfl,p.B.set _ p.r.a⟩))))))
noncomputable def encM(size code left:Int)(bs:ae b7):ae AO:=[.ns [13,14,15,16] [.int size, .int code, .int left, .own 2], .inst 567 0, .ba bs]
theorem yi{l:ae b7}{i:Nat}{v:b7}(h:i < l.length):(l.set i v).getD i 0=v:=by rw[gB,List.getElem?_set_self h,Option.getD_some]
theorem Cu{l:ae b7}{i j:Nat}{v:b7}(h:i≠j):(l.set i v).getD j 0=l.getD j 0:=by rw[gB,List.getElem?_set_ne h,← gB]
def Db(size code left oc i:Int)(bs:ae b7):St:=⟨[.own 1, .int oc, .int i],encM size code left bs⟩
inductive Ir(size code left oc:Int)(L n:Nat)(σ:St):Prop
 |mk (bs:ae b7) (SD:σ=Db size code left oc (n - 1) bs) (hn:n<=L) (hl:bs.length=L) (hz:n=L\/bs.getD (L - 1) 0=0)
inductive TB(size code left oc:Int)(L:Nat)(r:Fl×St):Prop
 |mk (i:Int) (k:Nat) (bs:ae b7) (hr:r=(.d8,Db size code left oc i bs)) (hl:bs.length=L) (hk:Tq i bs.length k) (hv:bs.getD k 0≠255)
theorem Ir.u{size code left oc:Int}{L n:Nat}{σ:St}{G:Nat->St->Prop}(h:Ir size code left oc L n σ)(h0:0 < L)(k0:∀bs:ae b7,bs.length=L->bs.getD (L - 1) 0=0->G 0 (Db size code left oc (-1) bs))
  (k1:∀(m:Nat) (bs:ae b7),bs.length=L->m < L->m+1=L\/bs.getD (L - 1) 0=0->G (m+1) (Db size code left oc m bs)):G n σ:=by
 cases h with|mk bs SD hn hl hz=>
 subst SD
 cases n with
 |zero=>exact k0 bs hl (hz.resolve_left (dO h0))
 |succ m=>exact(Int.add_sub_cancel (m:Int) 1)▸k1 m bs hl hn hz
theorem GD(b:b7)(h:b≠255):0<=(b.toNat:Int)+1/\(b.toNat:Int)+1 < 256:=by
 have h1:=b.toNat_lt
 have h2:b.toNat≠255:=λ e=>h (UInt8.toNat_inj.mp e)
 omega
theorem big{n:Nat}(h:n < 100000):(n:Int) < 4611686018427387904:=dr (mY.mpr h) (by decide)
theorem byte_at{b:b7}(h:((b.toNat:Int)==255)=true):b=255:=UInt8.toNat_inj.mp (Int.ofNat.inj (a_.mp h))
theorem Fs{d:Nat}{size code left oc:Int}{L:Nat}(h0:0 < L)(hL:L < 100000)(n:Nat)(σ:St)(h:Ir size code left oc L n σ):
  g5 (uN (fj (PQ W X hX d)).run (fh (PQ W X hX d)).run σ) (WR (Ir size code left oc L) (TB size code left oc L) n):=
 have nf (i:Int) (bs:ae b7) (K:Sum St (Fl×St)->Prop):uN (fj (PQ W X hX d)).run (fh (PQ W X hX d)).run (Db size code left oc i bs) K=
   tJ i bs.length λ k=>aY (((bs.getD k 0).toNat:Int)==255) (need (cM i bs.length) (need (0<=(0:Int)/\(0:Int) < 256/\bs.length < 1000000) (K (.inl (Db size code left oc (i - 1) (bs.set i.toNat 0)))))) (K (.inr (.d8,Db size code left oc i bs))):=by kernel_rfl
 Ir.u (G:=λ n σ=>g5 (uN (fj (PQ W X hX d)).run (fh (PQ W X hX d)).run σ) (WR (Ir size code left oc L) (TB size code left oc L) n)) h h0
  (λ bs hl z=> .eqv (nf _ bs) (.tJ (.inr ⟨rfl,hl▸h0,hl▸rfl⟩) (.br (λ q=>nomatch z.symm.trans (byte_at q)) λ aa=> .ret ⟨-1,L - 1,bs,rfl,hl, .inr ⟨rfl,hl▸h0,hl▸rfl⟩,λ e=>nomatch z.symm.trans e⟩)))
  λ m bs hl hm z=>
   have b:cM m bs.length:=⟨ku m,mY.mpr (hl▸hm),big (b_ hm hL)⟩
   have ba:Tq m bs.length m:= .inl ⟨b.1,b.2.1,b.2.2,rfl⟩
   .eqv (nf _ bs) (.tJ ba (.br (λ q=> .nd b (.nd ⟨by decide,by decide,hl▸b_ hL (by decide)⟩ (.ret ⟨m,jq m,bs.set m 0,rfl,eZ hm,iM.trans hl,
     .inr ((jp m (L - 1)).casesOn (motive:=λ aa=>(bs.set m 0).getD (L - 1) 0=0) (λ n=>(Cu n).trans (z.resolve_left λ e=>n (Nat.eq_sub_of_add_eq e))) λ e=>e▸yi (hl▸hm))⟩)))
    λ q=> .ret ⟨m,m,bs,rfl,hl,ba,λ e=>nomatch (ah (λ b:b7=>((b.toNat:Int)==255)) e).symm.trans q⟩))
def Zh(P:cC):SS P cJ:=iJ (S9 (DS (e8 0 p0) 16 p0) (e8 2 p0) p0 .Add (yv 1 p0) p0) lN
def Zi(P:cC):SS P cJ:=iJ (Dx (Wq (DS (e8 0 p0) 16 p0) p0 (iV (e8 1 p0) q7) p0 true) p0) lN
theorem fdiv_pow{a:Int}(b:Int)(h:0 < b):a.fdiv b=a / b:=jc a (eY h)
inductive Iq(L:Nat)(M:ae b7->ae AO)(v:AV)(m:ae AO):Prop
 |mk (bs:ae b7) (hv:v= .none) (hm:m=M bs) (hl:bs.length=L+1)
theorem Iq.u{L:Nat}{M:ae b7->ae AO}{v:AV}{m:ae AO}{G:AV->ae AO->Prop}(h:Iq L M v m)(k:∀bs,bs.length=L+1->G .none (M bs)):G v m:=Iq.casesOn (motive:=λ aa=>G v m) h λ bs hv hm hl=>hv▸hm▸k bs hl
theorem QB{code:Int}(h0:0<=code)(h1:code < 268435456):code.fdiv (2 ^ gS 19)=code / 524288/\0<=code / 524288/\code / 524288 < 512/\code.fmod (1 * 2 ^ gS 19)=code % 524288:=
 ⟨fdiv_pow _ (by decide),xR h0 (by decide),F0 (by decide) h1,jd _ (by decide)⟩
def Zj(P:cC)(size left oc cr:Int)(bs:ae b7)(K:AV×ae AO->Prop):Prop:=(0:Int)<=19/\((0:Int)<=19/\((0+1:Nat):Int)+19<=2 ^ 27)/\(1 * 2 ^ gS 19:Int)≠0/\
 aY (decide (oc > 255)) (need (bs.length < 4611686018427387904) (∃N,l6 (fj P).run (fh P).run N (Db size cr left (oc - 256) (bs.length - 1) bs) (pL (Zh P) (pL (Zi P) (iH λ v m=>K (v,m))))))
  (("bytearray.append"="bytearray.append"/\need (0<=oc/\oc < 256/\bs.length < 1000000) (K (.none,encM size cr left (bs++[eG oc.toNat]))))/\("bytearray.append"="bytearray.append"->true=true))
theorem QA{d:Nat}{size cr oc left:Int}{bs:ae b7}(h0:0<=oc)(h1:oc < 512)(h2:255 < oc->0 < bs.length)(hl:bs.length < 100000):g5 (Zj (PQ W X hX d) size left oc cr bs) λ a=>Iq bs.length (encM size cr left) a.1 a.2:=
 .and (by decide) (.and (by decide) (.and (by decide) (.TZ (λ q=>
   .nd (b_ hl (by decide)) (.loop (g5.while (Fs (h2 q) hl) bs.length _ ⟨bs,rfl,cF _,rfl, .inl rfl⟩) λ r j=>TB.casesOn (motive:=λ aa=>g5 (λ K=>pL (Zh (PQ W X hX d)) (pL (Zi (PQ W X hX d)) (iH λ v m=>K (v,m))) r.1 r.2) λ a=>Iq bs.length (encM size cr left) a.1 a.2) j λ i k q5 hr UO hk hv=>hr▸
    .eqv (R':=λ K=>tJ i q5.length λ k=>need (0<=((q5.getD k 0).toNat:Int)+1/\((q5.getD k 0).toNat:Int)+1 < 256/\q5.length < 1000000) (tJ i q5.length λ k₁=>
     ("bytearray.append"="bytearray.append"/\need (0<=oc - 256/\oc - 256 < 256/\(q5.set k₁ (eG (((q5.getD k 0).toNat:Int)+1).toNat)).length < 1000000) (K (.none,encM size cr left (q5.set k₁ (eG (((q5.getD k 0).toNat:Int)+1).toNat)++[eG (oc - 256).toNat]))))/\("bytearray.append"="bytearray.append"->true=true))) (λ K=>by kernel_rfl)
     (.tJ hk (.nd ⟨(GD _ hv).1,(GD _ hv).2,UO▸b_ hl (by decide)⟩ (.tJ hk (.Xl (λ aa=>rfl) (.and rfl (.nd ⟨mi q,Int.sub_lt_of_sub_lt (Int.sub_lt_sub_right h1 _),aU (aV (iM.trans UO)) (b_ hl (by decide))⟩ (.ret ⟨_,rfl,rfl,bj.trans (ah (·+1) (iM.trans UO))⟩)))))))))
  λ q=> .Xl (λ aa=>rfl) (.and rfl (.nd ⟨h0,gD (gZ.mp q) (by decide),b_ hl (by decide)⟩ (.ret ⟨_,rfl,rfl,bj⟩))))))
theorem AB{d:Nat}{size code left:Int}{bs:ae b7}(h0:0<=code)(h1:code < 268435456)(h2:bs.length=0->code < 134217728)(hl:bs.length < 100000):
  fy (PQ W X hX (d+2)) 550 [.own 1] (encM size code left bs) (Iq bs.length (encM size (code % 524288) left)):=
 have z:=QB h0 h1
 fy.go (P:=PQ W X hX (d+1)) oR og rfl rfl (R:=Zj (PQ W X hX (d+1)) size left (code.fdiv (2 ^ gS 19)) (code.fmod (1 * 2 ^ gS 19)) bs) (λ K=>by kernel_rfl)
  (z.1▸z.2.2.2▸QA z.2.1 z.2.2.1 (λ q=>Nat.pos_of_ne_zero λ e=>bt (F0 (b:=256) (by decide) (h2 e)) (gZ.mpr q)) hl)
theorem m8.turn{lo lo' size code left mR lJ:Int}{L:Nat}(E:m8 lo size code left L)(h0:lo'<=mR)(h1:mR<=65536)(h2:0<=lJ)(h:lJ+mR<=code+size):m8 lo' mR lJ left L:=
 have m:=dY h (Int.pow_nonneg (by decide):(0:Int)<=2 ^ left.toNat)
 ⟨h0,h1,h2,E.l0,E.l1,aO m E.cap,λ e=>aO m (E.T0 e)⟩
theorem m8.shift{lo size code left:Int}{L:Nat}(E:m8 lo size code left L){c:Int}(h1:c < code+size):c * 2 ^ left.toNat < 268435456/\(L=0->c * 2 ^ left.toNat < 134217728):=
 have m:=yw h1 (xH (by decide):(0:Int) < 2 ^ left.toNat)
 ⟨dr (kt m E.cap) (by decide),λ e=>kt m (E.T0 e)⟩
theorem m8.code{lo size code left:Int}{L:Nat}(E:m8 lo size code left L)(hp:0<=size):code<=150994944:=
 aO (Int.le_add_of_nonneg_right hp) (aO (aO (dX (rE _).symm) (fG (xH (by decide):(0:Int) < 2 ^ left.toNat) (Int.add_nonneg E.c0 hp))) E.cap)
theorem MU{left:Int}(h:1<=left):(2:Int) ^ left.toNat=2 * 2 ^ (left - 1).toNat:=
 have e:left=((left - 1).toNat:Int)+1:=(Int.sub_add_cancel left 1).symm.trans (ah (·+1) (sx (mi h)).symm)
 (ah (λ z:Int=>(2:Int) ^ z.toNat) e).trans ((Int.pow_succ 2 _).trans (Int.mul_comm _ _))
theorem m8.twice{lo lo' size code left:Int}{L:Nat}(E:m8 lo size code left L)(hl:1<=left)(hs:size < 32768)(h0:lo'<=size * 2):m8 lo' (size * 2) (code * 2) (left - 1) L:=
 have m:(code * 2+size * 2) * 2 ^ (left - 1).toNat=(code+size) * 2 ^ left.toNat:=by rw[MU hl,← Int.mul_assoc,Int.add_mul code]
 ⟨h0,aO (dY (eY hs) (by decide)) (by decide),rD E.c0 (by decide),mi hl,aO (Int.sub_le_self _ (by decide)) E.l1,m▸E.cap,λ e=>m▸E.T0 e⟩
theorem m8.out{lo size code lJ:Int}{L L':Nat}(E:m8 lo size code 0 L)(e:L'=L+1):m8 lo size (lJ % 524288) 8 L':=
 ⟨E.s0,E.s1,my _ (by decide),by decide,by decide,aO (dY (rC (eY (kq lJ (by decide:(0:Int) < 524288))) E.s1) (by decide)) (by decide:((524288+65536) * 2 ^ gS 8:Int)<=150994944),λ z=>nomatch e.symm.trans z⟩
theorem m8.full{lo size code:Int}{L:Nat}(E:m8 lo size code 0 L)(hp:1<=size):code < 268435456/\(L=0->code < 134217728):=
 have z:=E.shift (Int.lt_add_of_pos_right code hp)
 have e:code * 2 ^ gS 0=code:=rE code
 ⟨e▸z.1,λ h=>e▸z.2 h⟩
theorem Y5{a:Int}(h0:0<=a)(h1:a<=150994944):jH a 2:=Mx (by omega) (by decide)
theorem aal{size:Int}{n:Nat}(h:32768<=size * 2 ^ n)(q:size < 32768):∃m,n=m+1/\32768<=size * 2 * 2 ^ m:=by
 cases n with
 |zero=>exact bt (gD (rE size▸h:32768<=size) q) (Int.lt_irrefl _)
 |succ m=>exact⟨m,rfl,by rw[Int.pow_succ,Int.mul_comm (2 ^ m) 2,← Int.mul_assoc] at h; exact h⟩
def u6(size code left:Int)(bs:ae b7):St:=⟨[.own 1],encM size code left bs⟩
inductive Ki(B n:Nat)(σ:St):Prop
 |mk (size code left:Int) (bs:ae b7) (SD:σ=u6 size code left bs) (E:m8 1 size code left bs.length) (l:1<=left) (hn:32768<=size * 2 ^ n) (hb:bs.length+n<=B)
inductive OG(B:Nat)(r:Fl×St):Prop
 |mk (size code left:Int) (bs:ae b7) (hr:r=(.d8,u6 size code left bs)) (E:pi size code left bs) (hb:bs.length<=B)
def adP(P:cC)(size code left:Int)(bs:ae b7)(K:Sum St (Fl×St)->Prop):Prop:=
 aY (decide (size < 32768)) (jH size 2/\jH code 2/\aY (left - 1==0)
   (WC P 550 [.own 1] (encM (size * 2) (code * 2) (left - 1) bs) λ aa m=>(Nd (ct:=cn) (e8 0 p0) 15 p0 (yv 8 p0) p0:SX P cn).run ⟨[.own 1],m⟩ λ f σ=>sj f σ (λ σ=>K (.inl σ)) λ f σ=>K (.inr (f,σ)))
   (K (.inl (u6 (size * 2) (code * 2) (left - 1) bs)))) (K (.inr (.d8,u6 size code left bs)))
theorem FX{d B:Nat}(hB:B < 90000)(n:Nat)(σ:St)(h:Ki B n σ):g5 (uN (iX (PQ W X hX (d+2))).run (iW (PQ W X hX (d+2))).run σ) (WR (Ki B) (OG B) n):=
 Ki.casesOn (motive:=λ aa=>g5 (uN (iX (PQ W X hX (d+2))).run (iW (PQ W X hX (d+2))).run σ) (WR (Ki B) (OG B) n)) h λ size code left bs SD E l hn hb=>SD▸
  .eqv (R':=adP (PQ W X hX (d+2)) size code left bs) (λ K=>by kernel_rfl)
   (.TZ (λ q=>(aal hn q).elim λ m z=>
     have hb:bs.length+m < B:=Nat.lt_of_succ_le (aG (aV (ah (bs.length+·) z.1.symm)) hb)
     have lm:m < n:=z.1▸jq m
     have s0:0<=size:=aO (by decide) E.s0
     have s2:1<=size * 2:=aO E.s0 (aO (dX (rE _).symm) (fG (by decide) s0))
     have E':=E.twice (lo':=1) l q s2
     .and (Y5 s0 (aO E.s1 (by decide))) (.and (Y5 E.c0 (E.code s0)) (.br (λ q2=>
       have e0:left - 1=0:=a_.mp q2
       have E0:m8 1 (size * 2) (code * 2) 0 bs.length:=e0▸E'
       have fl:=E0.full s2
       .yL (AB (d:=d) E'.c0 fl.1 fl.2 (aU (bq ..) (b_ hb (b_ hB (by decide))))) λ v m' j=>j.u (G:=λ aa m'=>g5 (λ K=>(Nd (ct:=cn) (e8 0 p0) 15 p0 (yv 8 p0) p0:SX (PQ W X hX (d+2)) cn).run ⟨[.own 1],m'⟩ λ f σ=>sj f σ (λ σ=>K (.inl σ)) λ f σ=>K (.inr (f,σ))) (WR (Ki B) (OG B) n)) λ q5 hl=>
        .eqv (R':=λ K=>K (.inl (u6 (size * 2) (code * 2 % 524288) 8 q5))) (λ K=>by kernel_rfl) (.ret ⟨m,lm,size * 2,_,8,q5,rfl,E0.out hl,by decide,z.2,hl▸Nat.succ_add ..▸hb⟩))
      λ q2=> .ret ⟨m,lm,size * 2,code * 2,left - 1,bs,rfl,E',Int.le_of_sub_nonneg (jf (Ie.mpr ⟨mi l,λ e=>by rw[← e] at q2; cases q2⟩)),z.2,eZ hb⟩)))
    λ q=> .ret ⟨size,code,left,bs,rfl,⟨E.turn (gZ.mp q) E.s1 E.c0 (dT _),l⟩,aG (bq ..) hb⟩)
inductive zK(n L:Nat)(M:Int->Int->Int->ae b7->ae Int->ae Int->ae AO)(v:AV)(m:ae AO):Prop
 |mk (size code left:Int) (bs:ae b7) (ss ns:ae Int) (hv:v= .none) (hm:m=M size code left bs ss ns) (E:pi size code left bs) (l:bs.length<=L+15) (B:ky n ss ns)
theorem zK.v{n L:Nat}{M:Int->Int->Int->ae b7->ae Int->ae Int->ae AO}{v:AV}{m:ae AO}(h:zK n L M v m):v= .none:=zK.casesOn (motive:=λ aa=>v= .none) h λ aa aa aa aa aa aa hv aa aa aa aa=>hv
inductive OF(L:Nat)(M:Int->Int->Int->ae b7->ae AO)(v:AV)(m:ae AO):Prop
 |mk (size code left:Int) (bs:ae b7) (hv:v= .none) (hm:m=M size code left bs) (E:pi size code left bs) (l:bs.length<=L+15)
theorem RL{d:Nat}{size code left:Int}{bs:ae b7}(E:m8 1 size code left bs.length)(l1:1<=left)(hb:bs.length < 20000):fy (PQ W X hX (d+3)) 543 [.own 1] (encM size code left bs) (OF bs.length encM):=
 fy.go (P:=PQ W X hX (d+2)) rV q6 rfl rfl (R:=λ K=>∃N,l6 (iX (PQ W X hX (d+2))).run (iW (PQ W X hX (d+2))).run N (u6 size code left bs) (pL (lN (ct:=cn)) (iH λ v m=>K (v,m)))) (λ K=>by kernel_rfl)
  (.loop (g5.while (FX (B:=bs.length+15) (b_ (rF hb 15) (by decide))) 15 _ ⟨size,code,left,bs,rfl,E,l1,dY E.s0 (by decide:(0:Int)<=2 ^ 15),cF _⟩) λ r j=>OG.casesOn (motive:=λ aa=>g5 (λ K=>pL (lN (P:=PQ W X hX (d+2)) (ct:=cn)) (iH λ v m=>K (v,m)) r.1 r.2) λ a=>OF bs.length encM a.1 a.2) j λ size code left q5 hr E l=>
   hr▸g5.ret (α:=AV×ae AO) (a:=(AV.none,encM size code left q5)) (OF.mk size code left q5 rfl rfl E l))
noncomputable def pK(size code left:Int)(bs:ae b7)(ss ns:ae Int):ae AO:=[.ns [13,14,15,16] [.int size, .int code, .int left, .own 2], .inst 567 0, .ba bs, .ns [0,1] [.own 5, .own 6], .inst 245 3, .il ss, .il ns]
def Zw(P:cC)(i bit less:Int)(m:ae AO)(K:AV×ae AO->Prop):Prop:=(Dx (DU (e8 0 p0) 36 p0 q7 p0) p0:SX P g7).run ⟨[.own 1, .own 4, .int i, .int bit, .int less],m⟩ (iH λ v m=>K (v,m))
def MW(P:cC)(f:au)(i bit less:Int)(m:ae AO)(K:AV×ae AO->Prop):Prop:=WC P f [.own 4, .int i] m λ aa m=>Zw P i bit less m K
section
variable{d n:Nat}{size code left:Int}{bs:ae b7}{ss ns:ae Int}{i bit less:Int}
theorem vJ{f:au}(hc:fy (PQ W X hX (d+3)) f [.own 1, .int i] (zU ss ns) (BE n zU))(E:m8 1 size code left bs.length)(l:1<=left)(hb:bs.length < 20000):g5 (MW (PQ W X hX (d+3)) f i bit less (pK size code left bs ss ns)) λ a=>zK n bs.length pK a.1 a.2:=
 .yL (fy.use (qY:=[.own 4, .int i]) (M:=pK size code left bs ss ns) (I:=BE n (pK size code left bs)) [3,4,5,6] hc rfl rfl rfl rfl λ v m j=>j.u (G:=λ v m=>BE n (pK size code left bs) (eA (eW [3,4,5,6] 7) v) (upd (eW [3,4,5,6] 7) [3,4,5,6] m (pK size code left bs ss ns))) λ ss ns B=>⟨ss,ns,rfl,rfl,B⟩) λ v m j=>j.u (G:=λ aa m=>g5 (Zw (PQ W X hX (d+3)) i bit less m) λ a=>zK n bs.length pK a.1 a.2) λ ss ns B=>
  .eqv (R':=λ K=>WC (PQ W X hX (d+3)) 543 [.own 1] (pK size code left bs ss ns) λ aa m=>K (.none,m)) (λ K=>by kernel_rfl)
   (.yL (fy.use (qY:=[.own 1]) (M:=pK size code left bs ss ns) (I:=zK n bs.length pK) [0,1,2] (RL (d:=d) E l hb) rfl rfl rfl rfl λ v m j=>OF.casesOn j λ s c l q5 hv hm E h=>⟨s,c,l,q5,ss,ns,ah (eA _) hv,ah (upd _ _ · _) hm,E,h,B⟩) λ v m j=> .ret (j.v▸j))
def putN(P:cC)(i bit size code left:Int)(bs:ae b7)(ss ns:ae Int)(less:Int)(K:AV×ae AO->Prop):Prop:=aY (bit==intAt ns i.toNat)
 (aY (decide (size - less>=32768)) (K (.none,pK (size - less) code left bs ss ns)) (aY (decide (size - less < less)) (MW P 256 i bit less (pK less (code+(size - less)) left bs ss ns) K) (MW P 256 i bit less (pK (size - less) code left bs ss ns) K)))
 (aY (decide (size - less>=less)) (MW P 263 i bit less (pK less (code+(size - less)) left bs ss ns) K) (MW P 263 i bit less (pK (size - less) code left bs ss ns) K))
theorem QP(E:pi size code left bs)(hb:bs.length < 20000)(p:Oo n ss ns i)(l0:1<=less)(l1:less<=23314):g5 (putN (PQ W X hX (d+3)) i bit size code left bs ss ns less) λ a=>zK n bs.length pK a.1 a.2:=
 have s0:=E.b.s0; have s1:=E.b.s1
 have n1:1<=size - less:=by omega
 have n2:size - less<=65536:=by omega
 have EA:m8 1 less (code+(size - less)) left bs.length:=E.b.turn l0 (aO l1 (by decide)) (Int.add_nonneg E.b.c0 (aO (by decide) n1)) (dX (by rw[Int.add_assoc,Int.sub_add_cancel]))
 have EB {lo:Int} (h:lo<=size - less):m8 lo (size - less) code left bs.length:=E.b.turn h n2 E.b.c0 (Int.add_le_add_left (Int.sub_le_self _ (aO (by decide) l0)) _)
 .br (λ aa=> .TZ (λ q=> .ret ⟨size - less,code,left,bs,ss,ns,rfl,rfl,⟨EB q,E.l⟩,bq ..,p.B⟩) λ aa=> .TZ (λ aa=>vJ (Mv (d:=d+1) p) EA E.l hb) λ aa=>vJ (Mv (d:=d+1) p) (EB n1) E.l hb)
  λ aa=> .TZ (λ aa=>vJ (Mj (d:=d+1) p) EA E.l hb) λ aa=>vJ (Mj (d:=d+1) p) (EB n1) E.l hb
theorem Zx(E:pi size code left bs)(hb:bs.length < 20000)(B:ky n ss ns)(h0:0<=i)(h1:i < n)(hn:n < 1000):fy (PQ W X hX (d+4)) 536 [.own 1, .own 4, .int i, .int bit] (pK size code left bs ss ns) (zK n bs.length pK):=
 have p:=B.p h0 h1 hn
 fy.go (P:=PQ W X hX (d+3)) tH sF rfl rfl (R:=λ K=>need (cM i ss.length) (need (cM (intAt ss i.toNat) 114) (need (cM 0 (xe ss i).length) (need (cM i ns.length) (putN (PQ W X hX (d+3)) i bit size code left bs ss ns (intAt (xe ss i) (gS 0)) K))))) (λ K=>by kernel_rfl) (.nd p.b (.nd p.s (.nd (p.r.ix (by decide) (by decide)) (.nd p.c (QP E hb p p.r.l0 p.r.l1)))))
end
end
section
variable{prog:aK}{w:bw}{W:WK prog w}{X:BM->Prop}{hX:∀G G',dG G G'->X G->X G'}
theorem pi.start:pi 65536 0 11 []:=⟨⟨by decide,by decide,by decide,by decide,by decide,by decide,λ aa=>by decide⟩,by decide⟩
theorem K_{d:Nat}:fy (PQ W X hX (d+2)) 529 [.own 1] [.ns [] [], .inst 567 0] λ v m=>v= .none/\m=encM 65536 0 11 []:=
 fy.go (P:=PQ W X hX (d+1)) qW p5 rfl rfl (R:=λ K=>jH 2 32768/\K (.none,encM 65536 0 11 [])) (λ K=>by kernel_rfl) (.and (Mx (by decide) (by decide)) (.ret ⟨rfl,rfl⟩))
inductive Op(code size:Int)(M:Int->ae AO)(v:AV)(m:ae AO):Prop
 |mk (c:Int) (hv:v= .none) (hm:m=M c) (h0:0<=c) (h1:c < code+size)
theorem Op.u{code size:Int}{M:Int->ae AO}{v:AV}{m:ae AO}{G:AV->ae AO->Prop}(h:Op code size M v m)(k:∀c,0<=c->c < code+size->G .none (M c)):G v m:=Op.casesOn (motive:=λ aa=>G v m) h λ c hv hm h0 h1=>hv▸hm▸k c h0 h1
def abG(size code left top:Int)(bs:ae b7)(K:AV×ae AO->Prop):Prop:=
 jH 2 32768/\((2 * 32768:Int)≠0/\Int.natAbs (2 * 32768) < 1073741824)/\jH 2 32768/\jH top (2 * 32768)/\aY (decide (top * (2 * 32768) < code)) (K (.none,encM size (top * (2 * 32768)+32768) left bs)) (K (.none,encM size (top * (2 * 32768)) left bs))
theorem Pf{d:Nat}{size code left:Int}{bs:ae b7}(h0:32768<=size)(h1:size<=65536)(h2:0<=code)(h3:code<=1000000000):
  fy (PQ W X hX (d+2)) 557 [.own 1] (encM size code left bs) (Op code size (encM size · left bs)):=
 have z:(code+size - 1).fdiv (2 * 32768)=(code+size - 1) / 65536:=jc _ (by decide)
 have t:0<=(code+size - 1) / 65536/\(code+size - 1) / 65536 < 100000/\(code+size - 1) / 65536 * (2 * 32768) < code+size/\code - 32768<=(code+size - 1) / 65536 * (2 * 32768):=by omega
 fy.go (P:=PQ W X hX (d+1)) oQ n_ rfl rfl (R:=abG size code left ((code+size - 1).fdiv (2 * 32768)) bs) (λ K=>by kernel_rfl)
  (z▸ .and (Mx (by decide) (by decide)) (.and ⟨by decide,by decide⟩ (.and (Mx (by decide) (by decide)) (.and (F7 (pR (aO (by decide) t.1) (dr t.2.1 (by decide))))
   (.TZ (λ q=> .ret ⟨_,rfl,rfl,by omega,by omega⟩) λ q=> .ret ⟨_,rfl,rfl,rD t.1 (by decide),t.2.2.1⟩)))))
theorem bits_le{a b:Int}(h0:0<=a)(h:a < 268435456)(hb:b<=11):(Builtin.Int.intBits a:Int)+b<=2 ^ 27:=
 aO (rC (pO.mpr (pR (aO (by decide) h0) (dr h (by decide)))) hb) (by decide)
inductive Oy(size code left:Int)(n:Nat)(σ:St):Prop
 |mk (bs:ae b7) (SD:σ=u6 size code left bs) (e:n=bs.length) (h:bs.length < 100000)
inductive TC(size code left:Int)(r:Fl×St):Prop
 |mk (bs:ae b7) (hr:r=(.d8,u6 size code left bs)) (h:bs.length < 100000)
theorem MT{d:Nat}{size code left:Int}(n:Nat)(σ:St)(h:Oy size code left n σ):g5 (uN (f9 (PQ W X hX d)).run (f8 (PQ W X hX d)).run σ) (WR (Oy size code left) (TC size code left) n):=
 Oy.casesOn (motive:=λ aa=>g5 (uN (f9 (PQ W X hX d)).run (f8 (PQ W X hX d)).run σ) (WR (Oy size code left) (TC size code left) n)) h λ bs SD e h=>SD▸
  .eqv (R':=λ K=>aY (bs !=[]) (need ((-1:Int)= -1/\0 < bs.length) (aY (((bs.getLastD 0).toNat:Int)==0) ("bytearray.pop"="bytearray.pop"/\need (0 < bs.length/\bs.length < 1000000) (K (.inl (u6 size code left bs.dropLast)))) (K (.inr (.d8,u6 size code left bs))))) (K (.inr (.d8,u6 size code left bs)))) (λ K=>by kernel_rfl)
   (.br (λ q=>
     have hl:0 < bs.length:=fW.mpr (rS.mp q)
     have hd:bs.dropLast.length < bs.length:=F2▸Nat.sub_lt hl (by decide)
     .nd ⟨rfl,hl⟩ (.br (λ aa=> .and rfl (.nd ⟨hl,b_ h (by decide)⟩ (.ret ⟨bs.dropLast.length,e▸hd,_,rfl,rfl,b_ hd h⟩))) λ aa=> .ret ⟨bs,rfl,h⟩))
    λ aa=> .ret ⟨bs,rfl,h⟩)
def FinE(v:AV)(m:ae AO):Prop:=(∃l,v= .j9 l/\l.length < 100000)/\∃(size code left:Int) (bs:ae b7),m=encM size code left bs
def Ad(P:cC)(b:SS P cw)(m:ae AO)(K:AV×ae AO->Prop):Prop:=b.run ⟨[.own 1],m⟩ (iH λ v m=>K (v,m))
def Ut(P:cC):SS P cw:=iJ (FC (N7 p0 (iV (DS (e8 0 p0) 16 p0) q7) p0) p0) lN
def PJ(P:cC):SS P cw:=iJ (Ng (f9 P) (f8 P) p0) (Ut P)
def PD(P:cC):SS P cw:=iJ (Nb (e8 0 p0) 14 p0 .LShift (yv 8 p0) p0) (iJ (Dx (DU (e8 0 p0) 37 p0 q7 p0) p0) (PJ P))
def fin2(P:cC):SS P cw:=iJ (Nb (e8 0 p0) 14 p0 .LShift (DS (e8 0 p0) 15 p0) p0) (iJ (Dx (DU (e8 0 p0) 37 p0 q7 p0) p0) (PD P))
theorem PK{d:Nat}{size code left:Int}{bs:ae b7}(hb:bs.length < 100000):g5 (Ad (PQ W X hX d) (PJ (PQ W X hX d)) (encM size code left bs)) λ a=>FinE a.1 a.2:=
 .eqv (R':=λ K=>∃N,l6 (f9 (PQ W X hX d)).run (f8 (PQ W X hX d)).run N (u6 size code left bs) (pL (Ut (PQ W X hX d)) (iH λ v m=>K (v,m)))) (λ K=>by kernel_rfl)
  (.loop (g5.while MT bs.length _ ⟨bs,rfl,rfl,hb⟩) λ r j=>TC.casesOn (motive:=λ aa=>g5 (λ K=>pL (Ut (PQ W X hX d)) (iH λ v m=>K (v,m)) r.1 r.2) λ a=>FinE a.1 a.2) j λ q5 hr h=>hr▸
   .eqv (R':=λ K=>need (q5.length < 1000000) (K (.j9 q5,encM size code left q5))) (λ K=>by kernel_rfl) (.nd (b_ h (by decide)) (.ret ⟨⟨_,rfl,h⟩,_,_,_,_,rfl⟩)))
theorem PH{d:Nat}{size code left:Int}{bs:ae b7}(h0:0<=code)(h1:code < 524288)(hb:bs.length < 50000):g5 (Ad (PQ W X hX (d+2)) (PD (PQ W X hX (d+2))) (encM size code left bs)) λ a=>FinE a.1 a.2:=
 have h2:code * 2 ^ gS 8 < 134217728:=yw h1 (by decide:(0:Int) < 2 ^ gS 8)
 .eqv (R':=λ K=>((0:Int)<=8/\(Builtin.Int.intBits code:Int)+8<=2 ^ 27)/\WC (PQ W X hX (d+2)) 550 [.own 1] (encM size (code * 2 ^ gS 8) left bs) λ aa m=>Ad (PQ W X hX (d+2)) (PJ (PQ W X hX (d+2))) m K) (λ K=>by kernel_rfl)
  (.and ⟨by decide,bits_le h0 (dr h1 (by decide)) (by decide)⟩ (.yL (AB (d:=d) (rD h0 (by decide)) (dr h2 (by decide)) (λ aa=>h2) (b_ hb (by decide))) λ v m j=>j.u (G:=λ aa m=>g5 (Ad (PQ W X hX (d+2)) (PJ (PQ W X hX (d+2))) m) λ a=>FinE a.1 a.2) λ q5 hl=>
   PK (hl▸b_ (rF hb 1) (by decide))))
theorem PC{d:Nat}{size code left c:Int}{bs:ae b7}(E:pi size code left bs)(h0:0<=c)(h1:c < code+size)(hb:bs.length < 20000):g5 (Ad (PQ W X hX (d+2)) (fin2 (PQ W X hX (d+2))) (encM size c left bs)) λ a=>FinE a.1 a.2:=
 have h2:=E.b.shift h1
 have cb:c < 268435456:=gD (aO (dX (rE c).symm) (fG (xH (by decide):(0:Int) < 2 ^ left.toNat) h0)) h2.1
 .eqv (R':=λ K=>(0<=left/\(Builtin.Int.intBits c:Int)+left<=2 ^ 27)/\WC (PQ W X hX (d+2)) 550 [.own 1] (encM size (c * 2 ^ left.toNat) left bs) λ aa m=>Ad (PQ W X hX (d+2)) (PD (PQ W X hX (d+2))) m K) (λ K=>by kernel_rfl)
  (.and ⟨E.b.l0,bits_le h0 cb E.b.l1⟩ (.yL (AB (d:=d) (rD h0 (Int.pow_nonneg (by decide))) h2.1 h2.2 (b_ hb (by decide))) λ v m j=>j.u (G:=λ aa m=>g5 (Ad (PQ W X hX (d+2)) (PD (PQ W X hX (d+2))) m) λ a=>FinE a.1 a.2) λ q5 hl=>
   PH (d:=d) (my _ (by decide)) (kq _ (by decide)) (hl▸b_ (rF hb 1) (by decide))))
theorem Lk{d:Nat}{size code left:Int}{bs:ae b7}(E:pi size code left bs)(hb:bs.length < 20000):fy (PQ W X hX (d+4)) 564 [.own 1] (encM size code left bs) FinE:=
 fy.go (P:=PQ W X hX (d+3)) qX p6 rfl rfl (R:=λ K=>WC (PQ W X hX (d+3)) 557 [.own 1] (encM size code left bs) λ aa m=>Ad (PQ W X hX (d+3)) (fin2 (PQ W X hX (d+3))) m K) (λ K=>by kernel_rfl)
  (.yL (Pf (d:=d+1) E.b.s0 E.b.s1 E.b.c0 (aO (E.b.code (aO (by decide) E.b.s0)) (by decide))) λ v m j=>j.u (G:=λ aa m=>g5 (Ad (PQ W X hX (d+3)) (fin2 (PQ W X hX (d+3))) m) λ a=>FinE a.1 a.2) λ c h0 h1=>PC (d:=d+1) E h0 h1 hb)
end
theorem qd:∀{m:ae AO} {i:Nat} {o:AO},bM m i=af o->i < m.length
 |[],_,_=>λ h=>cm h
 |_::_,0,_=>λ aa=>pC _
 |_::r,_+1,_=>λ h=>gj (qd (m:=r) h)
theorem mx:∀{m:ae AO} {i:Nat} {o:AO},bM m i=af o->bz m i o=m
 |[],_,_=>λ h=>cm h
 |v::r,0,o=>λ h=>ah (·::r) (am h).symm
 |v::r,i+1,o=>λ h=>ah (v::·) (mx (m:=r) h)
theorem zw{o:TO}:∀{t:ae TO},gW (t++[o]) t.length=af o
 |[]=>rfl
 |_::l=>zw (t:=l)
theorem sa{m:ae AO}{i:Nat}{o x:AO}(h:bM m i=af x):bM (bz m i o) i=af o:=iY (qd h)
noncomputable def yj:ae TO->Nat->Nat->aC
 |[],_,_=>true
 |_::r,0,q=>noQ r q
 |o::r,i+1,q=>Qx (mq o) q&&yj r i q
where
 Qx (o:aq Nat) (q:Nat):aC:=match o with
  |some p=>!aT p q
  |none=>true
 noQ:ae TO->Nat->aC
 |[],_=>true
 |o::r,q=>Qx (mq o) q&&noQ r q
theorem Ho{o:aq Nat}{q:Nat}(h:yj.Qx o q=true):o≠af q:=λ e=>ay ((ah (!·) (uS q)).symm.trans (e▸h:yj.Qx (af q) q=true))
theorem MD:∀{t:ae TO} {q:Nat},yj.noQ t q=true->∀i o,gW t i=af o->mq o≠af q
 |[],_=>λ aa aa aa e=>cm e
 |x::r,q=>λ h i o=>match i with
  |0=>λ e=>am e▸Ho (aF h).1
  |i+1=>MD (aF h).2 i o
theorem Hj:∀{t:ae TO} {k q:Nat},yj t k q=true->∀i o,i≠k->gW t i=af o->mq o≠af q
 |[],_,_=>λ aa aa aa aa e=>cm e
 |x::r,0,q=>λ h i o n=>match i with
  |0=>bt rfl n
  |i+1=>MD h i o
 |x::r,k+1,q=>λ h i o n=>match i with
  |0=>λ e=>am e▸Ho (aF h).1
  |i+1=>Hj (aF h).2 i o λ e=>n (ah rH e)
theorem KH{t:ae TO}{i q:Nat}{o:TO}(h:gW t i=af o)(hb:wO o=false)(hq:gW t q=af .ba):i≠q:=λ e=>ay ((ah wO (am (h.symm.trans (e▸hq)))).symm.trans hb)
theorem GM.two{t:ae TO}{m:ae AO}(g:GM t m){i q:Nat}{o o₁:TO}{me:AO}{bs:ae b7}(h:gW t i=af o)(hb:wO o=false)(hq:gW t q=af .ba)(hl:yj t i q=true)
  (h1:GO (bz (bz m i me) q (.ba bs)) o₁ me) (he:∀p,mq o₁=af p->p=q):GM (q8 t i o₁) (bz (bz m i me) q (.ba bs)):=
 have Y8:=KH h hb hq
 have same {j:Nat} (a:j≠i) (b:j≠q):bM (bz (bz m i me) q (.ba bs)) j=bM m j:=(dV b).trans (dV a)
 ⟨(tf ..).trans (g.len.trans ((fP ..).trans (fP ..)).symm),
  λ j x hj=>pf hj (λ z y=>z.symm▸y.symm▸⟨me,(dV Y8).trans (iY (g.len▸qm h)),h1⟩) λ n hj=>(d5 (j=q)).elim
   (λ y=>⟨.ba bs,y.symm▸iY ((fP ..).symm▸g.len▸qm hq),(am (hq.symm.trans (y▸hj)):TO.ba=x)▸⟨bs,rfl⟩⟩)
   λ nq=>(g.get j x hj).imp λ o'=> .imp (same n nq).trans (GO.frame · λ p hp=>same (g.nq h hb j x p hj hp) λ e=>Hj hl j x n hj (e▸hp)),
  λ j x p hj hp=>pf hj (λ aa y=>(he p (y▸hp)).symm▸(lF Y8.symm).trans hq) λ n hj=>(lF (g.nq h hb j x p hj hp)).trans (g.enc j x p hj hp)⟩
theorem GM.Uf{t:ae TO}{m:ae AO}(g:GM t m){i q L:Nat}{o:TO}{me:AO}(h:gW t i=af o)(hb:wO o=false)(hq:gW t q=af .ba)(h1:GO m (.enc q L) me):GM (q8 t i (.enc q L)) (bz m i me):=
 have Y8:=(KH h hb hq).symm
 ⟨(tf ..).trans (g.len.trans (fP ..).symm),
  λ j x hj=>pf hj (λ z y=>z.symm▸y.symm▸⟨me,iY (g.len▸qm h),h1.frame λ p hp=>dV ((am hp:q=p)▸Y8)⟩)
   λ n hj=>(g.get j x hj).imp λ o'=> .imp (dV n).trans (GO.frame · λ p hp=>dV (g.nq h hb j x p hj hp)),
  λ j x p hj hp=>pf hj (λ aa y=>(am (y▸hp:mq (.enc q L)=af p):q=p)▸(lF Y8).trans hq) λ n hj=>(lF (g.nq h hb j x p hj hp)).trans (g.enc j x p hj hp)⟩
noncomputable def ac3(o:TO):aq {c:Nat×Nat // o= .enc c.1 c.2}:=match o with
 | .enc q L=>af ⟨(q,L),rfl⟩
 |_=>none
def Wb(C:au)(t:TV)(tm:ae TO):aq {c:Nat×Nat // t= .ex (.own c.1)/\gW tm c.1=af (.inst C c.2)}:=
 ob (nU t) λ p=>jS (gW tm p.1) λ o ho=>ob (Hp o) λ c=>dE (jp c.1.1 C) λ h=>af ⟨(p.1,c.1.2),p.2,ho.trans (ah af (h▸c.2))⟩
structure BH(tm:ae TO)(e je q L:Nat):Prop where
 i:gW tm e=af (.inst 567 je)
 o:gW tm je=af (.enc q L)
structure WZ(m:ae AO)(e je q:Nat)(size code left:Int)(bs:ae b7):Prop where
 i:bM m e=af (.inst 567 je)
 o:bM m je=af (.ns [13,14,15,16] [.int size, .int code, .int left, .own q])
 b:bM m q=af (.ba bs)
 E:pi size code left bs
def Z4(t:TV)(tm:ae TO):aq {c:Nat×Nat×Nat×Nat // t= .ex (.own c.1)/\BH tm c.1 c.2.1 c.2.2.1 c.2.2.2}:=
 ob (Wb 567 t tm) λ e=>jS (gW tm e.1.2) λ o ho=>ob (ac3 o) λ c=>af ⟨(e.1.1,e.1.2,c.1.1,c.1.2),e.2.1,e.2.2,ho.trans (ah af c.2)⟩
theorem GM.inst{tm:ae TO}{m:ae AO}(gm:GM tm m){i j:Nat}{C:au}(h:gW tm i=af (.inst C j)):bM m i=af (.inst C j):=(gm.at h).elim λ aa z=>z.1.trans (ah af z.2)
theorem BH.u{tm:ae TO}{m:ae AO}{e je q L:Nat}(A:BH tm e je q L)(gm:GM tm m){Q:Prop}(k:∀size code left bs,WZ m e je q size code left bs->bs.length<=L->Q):Q:=
 (gm.at A.o).elim λ o z=>aD z.2 λ size y=>y.elim λ code y=>y.elim λ left y=>y.elim λ bs y=>k size code left bs ⟨gm.inst A.i,z.1.trans (ah af y.1),y.2.1,y.2.2.1⟩ y.2.2.2
def WB(lo hi:Int)(n:Nat)(o:TO):Prop:=∀m x,GO m o x->∃r,x= .il r/\r.length=n/\∀y∈r,lo<=y/\y<=hi
theorem WB.nb{lo hi:Int}{n:Nat}{o:TO}(h:WB lo hi n o):wO o=false:=by
 cases e:wO o
 ·rfl
 ·exact(h [] (.ba []) (G9 e▸⟨[],rfl⟩)).elim λ r e=>AO.noConfusion e.1
def Ze(lo hi:Int)(o:TO):aq {n:Nat // WB lo hi n o}:=
 ob (Vq o) λ c=>dE (p:=lo<=c.1.2.1/\c.1.2.2<=hi) inferInstance λ h=>af ⟨c.1.1,λ m x g=>(c.2.go m x g).imp λ r=> .imp_right<| .imp_right λ a y hy=>(a y hy).imp (aO h.1) (aO · h.2)⟩
def UX(o:TO):aq {c:Nat×Nat // o= .ns [0,1] [.ex (.own c.1), .ex (.own c.2)]}:=match o with
 | .ns ks vs=>dE (nY ks [0,1]) λ h=>ob (RC vs) λ c=>ob (nU c.1.1) λ s=>ob (nU c.1.2) λ n=>af ⟨(s.1,n.1),(ah (TO.ns · vs) h).trans (ah (TO.ns [0,1]) (c.2.trans (congr (ah m5 s.2) (ah (λ y=>[y]) n.2))))⟩
 |_=>none
structure F_(tm:ae TO)(f jb s n k:Nat):Prop where
 i:gW tm f=af (.inst 245 jb)
 o:gW tm jb=af (.ns [0,1] [.ex (.own s), .ex (.own n)])
 s:∃o,gW tm s=af o/\WB 0 113 k o
 n:∃o,gW tm n=af o/\WB 0 1 k o
structure WX(m:ae AO)(f jb s n k:Nat)(ss ns:ae Int):Prop where
 i:bM m f=af (.inst 245 jb)
 o:bM m jb=af (.ns [0,1] [.own s, .own n])
 s:bM m s=af (.il ss)
 n:bM m n=af (.il ns)
 B:ky k ss ns
def adw(t:TV)(tm:ae TO):aq {c:Nat×Nat×Nat×Nat×Nat // t= .ex (.own c.1)/\F_ tm c.1 c.2.1 c.2.2.1 c.2.2.2.1 c.2.2.2.2}:=
 ob (Wb 245 t tm) λ f=>jS (gW tm f.1.2) λ o ho=>ob (UX o) λ z=>jS (gW tm z.1.1) λ os hs=>jS (gW tm z.1.2) λ on hn=>ob (Ze 0 113 os) λ ks=>ob (Ze 0 1 on) λ kn=>dE (jp kn.1 ks.1) λ h=>
  af ⟨(f.1.1,f.1.2,z.1.1,z.1.2,ks.1),f.2.1,f.2.2,ho.trans (ah af z.2),⟨os,hs,ks.2⟩,⟨on,hn,h▸kn.2⟩⟩
theorem GM.cM{tm:ae TO}{m:ae AO}(gm:GM tm m){i n:Nat}{lo hi:Int}(h:∃o,gW tm i=af o/\WB lo hi n o){Q:Prop}(k:∀r,bM m i=af (.il r)->r.length=n->(∀y∈r,lo<=y/\y<=hi)->Q):Q:=
 h.elim λ o h=>(gm.at h.1).elim λ x z=>(h.2 m x z.2).elim λ r y=>k r (z.1.trans (ah af y.1)) y.2.1 y.2.2
theorem TX{x:Int}(h:0<=x/\x<=1):x=0\/x=1:=(tv h.2).imp (λ l=>e_ (Ic l) h.1) id
theorem F_.u{tm:ae TO}{m:ae AO}{f jb s n k:Nat}(A:F_ tm f jb s n k)(gm:GM tm m){Q:Prop}(kk:∀ss ns,WX m f jb s n k ss ns->Q):Q:=
 gm.cM A.s λ ss h1 l1 b1=>gm.cM A.n λ ns h2 l2 b2=>(gm.at A.o).elim λ o z=>aD z.2 λ us y=>(dH.u2 y.2 (Q:=λ us=>o= .ns [0,1] us->o= .ns [0,1] [.own s, .own n]) λ u v (e1:u= .own s) (e2:v= .own n) e=>e1▸e2▸e) y.1|>λ e=>
  kk ss ns ⟨gm.inst A.i,z.1.trans (ah af e),h1,h2,l1,l2,λ x hx=>(b1 x hx).imp id Int.lt_add_one_of_le,λ x hx=>TX (b2 x hx)⟩
theorem mO{l:ae Nat}(h:l.Nodup)(i j:Nat){x y:Nat}(hi:l[i]?=af x)(hj:l[j]?=af y)(n:aT i j=false):x≠y:=λ e=>pP n ((n7 (ju hi) h).mp (hi.trans ((ah af e).trans hj.symm)))
def MY(tm:ae TO)(je q L s n k:Nat):ae Out:=[(.ex .none,q8 (q8 (q8 tm je (.enc q (L+15))) s (.Al k 0 113)) n (.Al k 0 1))]
def Zs(ts:ae TV)(tm:ae TO):aq (ae Out):=ob (Ln ts) λ T=>ob (Z4 T.1.1 tm) λ e=>ob (adw T.1.2.1 tm) λ f=>jS (mj T.1.2.2.1) λ i aa=>ob (tI T.1.2.2.2) λ aa=>
 nB (bB f.1.2.2.2.2 999&&(decide (0<=i.1/\i.2 < (f.1.2.2.2.2:Int))&&(bB e.1.2.2.2 19000&&(yj tm e.1.2.1 e.1.2.2.1&&s7 [e.1.2.1,e.1.1,e.1.2.2.1,f.1.2.1,f.1.1,f.1.2.2.1,f.1.2.2.2.1] tm.length))))
  (af (MY tm e.1.2.1 e.1.2.2.1 e.1.2.2.2 f.1.2.2.1 f.1.2.2.2.1 f.1.2.2.2.2))
section
variable{prog:aK}{w:bw}{W:WK prog w}{X:BM->Prop}{hX:∀G G',dG G G'->X G->X G'}
section
variable{m:ae AO}{e je q f jb s n k:Nat}{size code left iv bv:Int}{bs:ae b7}{ss ns:ae Int}
theorem VB(A:WZ m e je q size code left bs)(B:WX m f jb s n k ss ns)(sel:s7 [je,e,q,jb,f,s,n] m.length=true)(hb:bs.length < 20000)(h0:0<=iv)(h1:iv < k)(hn:k < 1000):
  fy (PQ W X hX 4) 536 [.own e, .own f, .int iv, .int bv] m λ v m'=>zK k bs.length (λ size code left bs ss ns=>bz (bz (bz (bz m je (.ns [13,14,15,16] [.int size, .int code, .int left, .own q])) q (.ba bs)) s (.il ss)) n (.il ns)) v m':=
 have N:=(qI sel).1
 fy.at [je,e,q,jb,f,s,n] (Zx (W:=W) (X:=X) (hX:=hX) (d:=0) (i:=iv) (bit:=bv) A.E hb B.B h0 h1 hn) rfl sel rfl (bZ A.o<|bZ A.i<|bZ A.b<|bZ B.o<|bZ B.i<|bZ B.s<|bZ B.n<|rfl) λ v m' j=>by
  rcases j with⟨mR,lJ,rn,q5,V5,Br,rfl,rfl,E',l',B'⟩
  have a1:bz (bz m je (.ns [13,14,15,16] [.int mR, .int lJ, .int rn, .own q])) e (.inst 567 je)=bz m je (.ns [13,14,15,16] [.int mR, .int lJ, .int rn, .own q]):=mx ((dV (mO N 1 0 rfl rfl rfl)).trans A.i)
  have a2:bz (bz (bz m je (.ns [13,14,15,16] [.int mR, .int lJ, .int rn, .own q])) q (.ba q5)) jb (.ns [0,1] [.own s, .own n])=bz (bz m je (.ns [13,14,15,16] [.int mR, .int lJ, .int rn, .own q])) q (.ba q5):=mx ((dV (mO N 3 2 rfl rfl rfl)).trans ((dV (mO N 3 0 rfl rfl rfl)).trans B.o))
  have a3:bz (bz (bz m je (.ns [13,14,15,16] [.int mR, .int lJ, .int rn, .own q])) q (.ba q5)) f (.inst 245 jb)=bz (bz m je (.ns [13,14,15,16] [.int mR, .int lJ, .int rn, .own q])) q (.ba q5):=mx ((dV (mO N 4 2 rfl rfl rfl)).trans ((dV (mO N 4 0 rfl rfl rfl)).trans B.i))
  exact⟨rfl,mR,lJ,rn,q5,V5,Br,rfl,(bS _).trans ((ah (λ x=>bz (bz (bz (bz (bz x q (.ba q5)) jb (.ns [0,1] [.own s, .own n])) f (.inst 245 jb)) s (.il V5)) n (.il Br)) a1).trans
   ((ah (λ x=>bz (bz (bz x f (.inst 245 jb)) s (.il V5)) n (.il Br)) a2).trans (ah (λ x=>bz (bz x s (.il V5)) n (.il Br)) a3))),E',l',B'⟩
end
theorem VC{tm:ae TO}{m:ae AO}{e je q L f jb s n k:Nat}{iv bv:Int}(gm:GM tm m)(A:BH tm e je q L)(B:F_ tm f jb s n k)(lo:yj tm je q=true)(sel:s7 [je,e,q,jb,f,s,n] tm.length=true)(hL:L<=19000)(h0:0<=iv)(h1:iv < k)(hn:k<=999):
  DW (PQ W X hX 4) 536 [.own e, .own f, .int iv, .int bv] m (MY tm je q L s n k):=
 A.u gm λ size code left bs E lb=>B.u gm λ ss ns B'=>have N:=(qI sel).1
  (VB (W:=W) (X:=X) (hX:=hX) (bv:=bv) E B' (gm.len▸sel) (aU (aG lb hL) (by decide)) h0 h1 (Nat.lt_succ_of_le hn)).elim λ v z=>z.elim λ m' z=>by
   obtain⟨j,z⟩:=z
   rcases j with⟨mR,lJ,rn,q5,V5,Br,rfl,rfl,E',l',B1⟩
   have hq:=gm.enc _ _ q A.o rfl
   have t1:=gm.two (o₁:= .enc q (L+15)) (me:= .ns [13,14,15,16] [.int mR, .int lJ, .int rn, .own q]) (bs:=q5) A.o rfl hq lo ⟨mR,lJ,rn,q5,rfl,sa ((dV (mO N 2 0 rfl rfl rfl)).trans E.b),E',aG l' (fH lb 15)⟩ λ p hp=>(am hp).symm
   exact B.s.elim λ os hs=>B.n.elim λ on Sz=>⟨.none,_,⟨_,be.mpr rfl,rfl,GM.set (GM.set t1 (o₁:= .Al k 0 113) (me:= .il V5) ((lF (mO N 5 0 rfl rfl rfl)).trans hs.1) hs.2.nb ⟨V5,rfl,B1.s,λ x hx=>(B1.so x hx).imp id Ic⟩ (.inl rfl))
    (o₁:= .Al k 0 1) (me:= .il Br) ((lF (mO N 6 5 rfl rfl rfl)).trans ((lF (mO N 6 0 rfl rfl rfl)).trans Sz.1)) Sz.2.nb ⟨Br,rfl,B1.n,λ x hx=>(B1.no x hx).elim (λ e=>⟨dX e.symm,aO (dX e) (by decide)⟩) λ e=>⟨aO (by decide) (dX e.symm),dX e⟩⟩ (.inl rfl)⟩,z⟩
theorem dH.u4{a b c d:TV}{us:ae AV}{Q:ae AV->Prop}(h:dH [a,b,c,d] us)(k:∀u v w x,GV a u->GV b v->GV c w->GV d x->Q [u,v,w,x]):Q us:=
 h.uc λ u aa g1 h=>h.uc (Q:=λ r=>Q (u::r)) λ v aa g2 h=>h.u2 (Q:=λ r=>Q (u::v::r)) λ w x g3 g4=>k u v w x g1 g2 g3 g4
theorem QM{ts:ae TV}{tm:ae TO}{outs:ae Out}(h:Zs ts tm=af outs){vs:ae AV}{m:ae AO}(gv:dH ts vs)(gm:GM tm m):DW (PQ W X hX 4) 536 vs m outs:=
 ob.u h λ T aa h=>ob.u h λ e aa h=>ob.u h λ f aa h=>jS.u h λ i hi h=>ob.u h λ b aa h=>nB.u h λ hc h=>
  have c1:=aF hc; have c2:=aF c1.2; have c3:=aF c2.2; have c4:=aF c3.2; have ci:=bg c2.1
  dH.u4 (T.2▸gv:dH [T.1.1,T.1.2.1,T.1.2.2.1,T.1.2.2.2] vs) (Q:=λ vs=>DW (PQ W X hX 4) 536 vs m outs) λ u v x y g1 g2 g3 g4=>(lC g1 e.2.1).symm▸(lC g2 f.2.1).symm▸mj.u hi g3 (Q:=λ x=>DW (PQ W X hX 4) 536 [.own e.1.1, .own f.1.1,x,y] m outs) λ iv i0 i1=>(b.2 y g4).elim λ bv eb=>eb.symm▸
   am h▸VC gm e.2.2 f.2.2 c4.1 c4.2 (aQ c3.1) (aO ci.1 i0) (gD i1 ci.2) (aQ c1.1)
end
def DJ(r:ae Int):Int:=(intAt r 1 * 39373+7).fmod 2147483647
def FQ(r:ae Int)(top:Int):Int:=aY (decide (0 < intAt r 0)) ((intAt r 0).fmod top) ((((DJ r * DJ r).fmod 2147483629).fdiv 32).fmod top)
def gF(r:ae Int)(top:Int):ae Int:=[aY (decide (0 < intAt r 0)) ((intAt r 0).fdiv top) (intAt r 0),aY (decide (0 < intAt r 0)) (intAt r 1) (DJ r)]
theorem Cn(a:Int){top:Int}(h:0 < top):0<=a.fmod top/\a.fmod top<=top - 1:=
 (jd a (eY h)).symm▸⟨my a (jn h),jf (kq a h)⟩
theorem KZ{α:Type}{b:aC}{x y:α}{Q:α->Prop}(h:Q x)(k:Q y):Q (aY b x y):=by
 cases b
 ·exact k
 ·exact h
theorem nz(r:ae Int){top:Int}(h:0 < top):0<=FQ r top/\FQ r top<=top - 1:=KZ (Q:=λ x=>0<=x/\x<=top - 1) (Cn _ h) (Cn _ h)
section
variable{prog:aK}{w:bw}{W:WK prog w}{X:BM->Prop}{hX:∀G G',dG G G'->X G->X G'}{j:aC}{cB:x4}
theorem qy{i:Nat}{e:lj}(h:FT[i]?=af e)(h0:e.dm=0){d:Nat}{vs:ae AV}{m:ae AO}{I:AV->ae AO->Prop}(hl:vs.length=e.xs.length)(r:g5 (λ K=>(e.b (PV W X hX (d+1) j cB)).run ⟨fill e.ct.aS vs,m⟩ (iH λ v m=>K (v,m))) λ a=>I a.1 a.2):
  fy (PV W X hX (d+2) j cB) e.f vs m I:=
 have he:=dB h
 (z6 W (X:=X) (hX:=hX) (d:=d+1) (j:=j) (cB:=cB) (dA FL (dA FJ he))).elim λ dv z=>
  (h0▸z.1 (λ aa=>none) []:bJ (λ aa=>none) [] (B_ 0) dv).u0 (Q:=λ dv=>FnAt (PV W X hX (d+1) j cB) e.ct e.f e.xs dv (e.b (PV W X hX (d+1) j cB)).bA->fy (PV W X hX (d+2) j cB) e.f vs m I)
   (λ h2=>fy.fn (P:=PV W X hX (d+1) j cB) h2 (da:=[]) (λ aa aa=>bJ.nil) (aZ.mp (J2 W) e he) (RT he) hl ((bS vs).symm▸r)) z.2
theorem FO{d:Nat}{x y top:Int}(h:0 < top)(h2:top < 1000000):fy (PV W X hX (d+2) j cB) 865 [.own 0, .int top] [.il [x,y]] λ v m=>v= .int (FQ [x,y] top)/\m=[.il (gF [x,y] top)]:=by
 refine qy (i:=52) rfl rfl rfl ?_
 conv=>enter [1,K]; whnf
 refine g5.TZ (λ q=>?_) λ q=>?_
 ·have q':decide (0 < intAt [x,y] 0)=true:=cz q
  conv=>enter [1,K]; whnf
  refine g5.and (by omega) ?_
  conv=>enter [1,K]; whnf
  refine g5.and ⟨by omega,by omega⟩ ?_
  conv=>enter [1,K]; whnf
  refine g5.ret ⟨?_,?_⟩
  ·unfold FQ; rw[q']; rfl
  ·unfold gF; rw[q']; rfl
 ·have q':decide (0 < intAt [x,y] 0)=false:=dj q
  conv=>enter [1,K]; whnf
  refine g5.and (zb (by decide) (by decide)) ?_
  conv=>enter [1,K]; whnf
  refine g5.and (by decide) ?_
  conv=>enter [1,K]; whnf
  have hm:0<=DJ [x,y]/\DJ [x,y] < 2147483647:=by
   unfold DJ
   rw[jd _ (by decide)]
   exact⟨my _ (by decide),kq _ (by decide)⟩
  refine g5.and (show jH (DJ [x,y]) (DJ [x,y]) from Mx (by omega) (by omega)) ?_
  conv=>enter [1,K]; whnf
  refine g5.and (by decide) ?_
  conv=>enter [1,K]; whnf
  refine g5.and ⟨by decide,by decide⟩ ?_
  conv=>enter [1,K]; whnf
  refine g5.and (by omega) ?_
  conv=>enter [1,K]; whnf
  refine g5.ret ⟨?_,?_⟩
  ·unfold FQ; rw[q']; rfl
  ·unfold gF; rw[q']; rfl
def XU(r:ae Int)(top:Int)(s:ae TO):aq (ae Out):=
 aY (decide (top=1)) (af [(.ex (.int 0),s)]) (aY (decide (top=2)) (af [(.ex (.int 0),s),(.ex (.int 1),s)]) (aY (decide (top=3)) (af [(.ex (.int 0),s),(.ex (.int 1),s),(.ex (.int 2),s)])
 (aY (decide (top=4)) (af [(.ex (.int 0),s),(.rg 1 3,s)]) (aY (decide (top=5)) (af [(.nr (FQ r top) 0 4,s)]) none))))
theorem Ay{o:Out}{l:ae Out}{P:Out->Prop}(h:P o):∃x,x∈o::l/\P x:=⟨o,aR,h⟩
theorem C4{o:Out}{l:ae Out}{P:Out->Prop}(h:∃x,x∈l/\P x):∃x,x∈o::l/\P x:=h.imp λ aa=> .imp_left (aP _)
theorem NZ{v n:Int}(h:v<=n):v=n\/v<=n - 1:=(tv h).symm.imp id jf
theorem K5{p:Prop}[fF p]{α:Type}{x y:aq α}{r:α}{Q:Prop}(h:aY (decide p) x y=af r)(k:p->x=af r->Q)(k':y=af r->Q):Q:=condB h (λ e=>k (bg e)) λ aa=>k'
abbrev DgR(r:ae Int)(top:Int)(s:ae TO)(outs:ae Out):Prop:=(0 < top/\top < 1000000)/\∃o,o∈outs/\GV o.1 (.int (FQ r top))/\o.2=s
theorem Pq{r:ae Int}{top:Int}{s:ae TO}{outs:ae Out}(h:XU r top s=af outs):DgR r top s outs:=by
 refine K5 h (λ e h=>?_) λ h=>K5 h (λ e h=>?_) λ h=>K5 h (λ e h=>?_) λ h=>K5 h (λ e h=>?_) λ h=>K5 h (λ e h=>?_) λ h=>cm h
 all_goals subst e; refine am h▸⟨⟨by decide,by decide⟩,?_⟩
 ·have c:=nz r (top:=1) (by decide)
  exact Ay ⟨ah AV.int (e_ c.2 c.1),rfl⟩
 ·have c:=nz r (top:=2) (by decide)
  exact(NZ c.2).elim (λ e=>C4 (Ay ⟨ah AV.int e,rfl⟩)) λ k=>Ay ⟨ah AV.int (e_ k c.1),rfl⟩
 ·have c:=nz r (top:=3) (by decide)
  exact(NZ c.2).elim (λ e=>C4 (C4 (Ay ⟨ah AV.int e,rfl⟩))) λ k=>(NZ k).elim (λ e=>C4 (Ay ⟨ah AV.int e,rfl⟩)) λ k=>Ay ⟨ah AV.int (e_ k c.1),rfl⟩
 ·have c:=nz r (top:=4) (by decide)
  exact(tv c.1).elim (λ l=>C4 (Ay ⟨⟨_,rfl,Ib l,c.2⟩,rfl⟩)) λ e=>Ay ⟨ah AV.int e.symm,rfl⟩
 ·exact Ay ⟨⟨rfl,nz r (by decide)⟩,rfl⟩
theorem acP{α:Type}:∀{l:ae α},aT l.length 2=true->∃x y,l=[x,y]
 |[x,y],_=>⟨x,y,rfl⟩
def S1(ts:ae TV)(tm:ae TO):aq (ae Out):=ob (RC ts) λ T=>ob (nU T.1.1) λ p=>ob (lz T.1.2) λ top=>jS (gW tm p.1) λ o ho=>ob (oIx o) λ r=>bE (aT r.1.length 2) λ aa=>XU r.1 top.1 (q8 tm p.1 (.ix (gF r.1 top.1)))
theorem Rt{tm:ae TO}{m:ae AO}(gm:GM tm m){p:Nat}{r:ae Int}{top:Int}(hl:aT r.length 2=true)(ho:gW tm p=af (.ix r)){outs:ae Out}(D:DgR r top (q8 tm p (.ix (gF r top))) outs):DW (PV W X hX 2 j cB) 865 [.own p, .int top] m outs:=
 have m1:bM m p=af (.il r):=(gm.at ho).elim λ aa z=>z.1.trans (ah af z.2)
 have E:fy (PV W X hX 2 j cB) 865 [.own p, .int top] m λ v m'=>v= .int (FQ r top)/\m'=bz m p (.il (gF r top)):=(acP hl).elim λ x z=>z.elim λ y e=>by
  subst e
  exact fy.use [p] (FO (W:=W) (X:=X) (hX:=hX) (j:=j) (cB:=cB) (d:=0) D.1.1 D.1.2) rfl (bN.mpr ⟨c6 (gm.len▸qm ho),rfl⟩) rfl (bZ m1 rfl) λ v m' k=>⟨ah (eA (eW [p] m.length)) k.1,(ah (upd (eW [p] m.length) [p] · m) k.2).trans (bS _)⟩
 E.elim λ v z=>z.elim λ m' z=>D.2.elim λ o y=>⟨v,m',⟨o,y.1,z.1.1▸y.2.1,y.2.2▸z.1.2▸gm.set (o:= .ix r) ho rfl rfl (.inl rfl)⟩,z.2⟩
theorem MP{ts:ae TV}{tm:ae TO}{outs:ae Out}(h:S1 ts tm=af outs){vs:ae AV}{m:ae AO}(gv:dH ts vs)(gm:GM tm m):DW (PV W X hX 2 j cB) 865 vs m outs:=
 ob.u h λ T aa h=>ob.u h λ p aa h=>ob.u h λ top aa h=>jS.u h λ o ho h=>ob.u h λ r aa h=>bE.u h λ hl h=>dH.v2 T.2 gv (Q:=λ vs=>DW (PV W X hX 2 j cB) 865 vs m outs) λ u v g1 g2=>(lC g1 p.2).symm▸(lC g2 top.2).symm▸Rt gm hl (ho.trans (ah af r.2)) (Pq h)
theorem fy.fz{P:cC}{f:au}{dx:ae AV}{mem:ae AO}{I I':AV->ae AO->Prop}(h:fy P f dx mem I)(k:∀v m,I v m->∃r,Oe mem.length v m=af r/\I' r.1 r.2):fy P f dx mem I':=by
 obtain⟨v,m,i,z⟩:=h
 obtain⟨r,e,i'⟩:=k v m i
 exact⟨r.1,r.2,i',WC.fz (z.mono λ v' m' q=>⟨r,q.1.symm▸q.2.symm▸e,rfl,rfl⟩)⟩
noncomputable def Lu{α:Type}:ae α->Nat->aq α
 |a::_,0=>af a
 |_::r,i+1=>Lu r i
 |[],_=>none
theorem tB.at{α:Type}{P:α->AV->Prop}:∀{C:ae α} {cs:ae AV} {i:Nat} {r:α},tB P C cs->Lu C i=af r->P r (fE cs i)/\i < cs.length
 |[],_,_,_=>λ aa e=>cm e
 |_::_,_,0,_=>λ h e=>h.elim λ c h=>h.elim λ t h=>h.1▸⟨am e▸h.2.1,pC _⟩
 |_::_,_,i+1,_=>λ h e=>h.elim λ c h=>h.elim λ t h=>h.1▸(tB.at (i:=i) h.2.2 e).imp id gj
theorem tB.eW{α:Type}{P:α->AV->Prop}{f:Nat->Nat}(k:∀r c,P r c->eA f c=c):∀{C:ae α} {cs:ae AV},tB P C cs->ew f cs=cs
 |[],_=>λ h=>(show _=[] from h)▸rfl
 |_::_,_=>λ h=>h.elim λ c h=>h.elim λ t h=>h.1▸(ah (·::ew f t) (k _ c h.2.1)).trans (ah (c::·) (tB.eW k h.2.2))
theorem Ip.eW{α:Type}{P:ae α->ae AV->Prop}{f:Nat->Nat}(k:∀{r c},P r c->ew f c=c)(r:ae α)(v:AV)(h:Ip P r v):eA f v=v:=h.elim λ c h=>h.1▸ah AV.lst (k h.2)
theorem Ga.eW{f:Nat->Nat}(r:ae Int)(c:AV)(h:Ga r c):eA f c=c:=h.elim (λ e=>e▸rfl) λ e=>e.1▸rfl
theorem vl.eW{f:Nat->Nat}{R:ae (ae (ae (ae Int)))}{ps:ae AV}(h:vl R ps):ew f ps=ps:=tB.eW (Ip.eW (tB.eW (Ip.eW (tB.eW Ga.eW)))) h
theorem ng.eW{f:Nat->Nat}{R:ae (ae (ae (ae Int)))}{g:AV}(h:ng R g):eA f g=g:=h.elim λ ps h=>h.1▸ah (λ l=>AV.inst 812 [28,29] [.int 4, .lst l]) (vl.eW h.2)
theorem E8{n:Int}(h:Ao n=true):0<=n/\n < 4611686018427387904:=bg h
theorem Sv{d:Nat}{R:ae (ae (ae (ae Int)))}{g:AV}(hg:ng R g){p x y:Int}(hp:Ao p=true)(hx:Ao x=true)(hy:Ao y=true){L:ae (ae (ae Int))}{C:ae (ae Int)}{r:ae Int}(e1:Lu R p.toNat=af L)(e2:Lu L y.toNat=af C)(e3:Lu C x.toNat=af r):
  fy (PV W X hX (d+2) j cB) 802 [g, .int p, .int x, .int y] [] λ v m=>v= .row r/\m=[]:=by
 obtain⟨ps,rfl,hP⟩:=hg
 obtain⟨⟨ls,a1,hL⟩,b1⟩:=hP.at e1
 obtain⟨⟨cs,a2,hC⟩,b2⟩:=hL.at e2
 obtain⟨hc,b3⟩:=hC.at e3
 have hp:=E8 hp
 have hx:=E8 hx
 have hy:=E8 hy
 refine fy.fz (I:=λ v m=>(v= .row r/\m=[])\/(r=[0,0,0,0]/\v= .own 1/\m=[.lst [.int 0], .il [0,0,0,0]])) ?_ λ v m k=>?_
 ·refine qy (i:=47) rfl rfl rfl ?_
  conv=>enter [1,K]; whnf
  refine g5.nd ⟨hp.1,by omega,hp.2⟩ ?_
  conv=>enter [1,K]; rw[a1]; whnf
  refine g5.nd ⟨hy.1,by omega,hy.2⟩ ?_
  conv=>enter [1,K]; rw[a2]; whnf
  refine g5.nd ⟨hx.1,by omega,hx.2⟩ ?_
  rcases hc with e|⟨e,rfl⟩
  ·conv=>enter [1,K]; rw[e]; whnf
   exact g5.ret (.inl ⟨rfl,rfl⟩)
  ·conv=>enter [1,K]; rw[e]; whnf
   exact g5.ret (.inr ⟨rfl,rfl,rfl⟩)
 ·rcases k with⟨rfl,rfl⟩|⟨rfl,rfl,rfl⟩
  ·exact⟨(.row r,[]),rfl,rfl,rfl⟩
  ·exact⟨(.row [0,0,0,0],[]),rfl,rfl,rfl⟩
def Zr(ts:ae TV)(tm:ae TO):aq (ae Out):=ob (Ln ts) λ T=>ob (tGr T.1.1) λ R=>ob (lz T.1.2.1) λ p=>ob (lz T.1.2.2.1) λ x=>ob (lz T.1.2.2.2) λ y=>bE (Ao p.1&&(Ao x.1&&Ao y.1)) λ aa=>jS (Lu R.1 p.1.toNat) λ L hL=>jS (Lu L y.1.toNat) λ C hC=>jS (Lu C x.1.toNat) λ r hr=>af [(.ex (.row r),tm)]
theorem UD{tm:ae TO}{m:ae AO}(gm:GM tm m){g:AV}{p x y:Int}{r:ae Int}(D:fy (PV W X hX 2 j cB) 802 [g, .int p, .int x, .int y] [] λ v m=>v= .row r/\m=[])(hg:∀f,eA f g=g):DW (PV W X hX 2 j cB) 802 [g, .int p, .int x, .int y] m [(.ex (.row r),tm)]:=
 have E:fy (PV W X hX 2 j cB) 802 [g, .int p, .int x, .int y] m λ v m'=>v= .row r/\m'=m:=fy.use [] D (ah (λ g=>[g,AV.int p, .int x, .int y]) (hg _).symm) rfl rfl rfl λ v m' k=>⟨ah (eA (eW [] m.length)) k.1,(ah (upd (eW [] m.length) [] · m) k.2).trans (bS _)⟩
 E.elim λ v z=>z.elim λ m' z=>⟨v,m',⟨_,be.mpr rfl,z.1.1,z.1.2▸gm⟩,z.2⟩
theorem QL{ts:ae TV}{tm:ae TO}{outs:ae Out}(h:Zr ts tm=af outs){vs:ae AV}{m:ae AO}(gv:dH ts vs)(gm:GM tm m):DW (PV W X hX 2 j cB) 802 vs m outs:=
 ob.u h λ T aa h=>ob.u h λ R aa h=>ob.u h λ p aa h=>ob.u h λ x aa h=>ob.u h λ y aa h=>bE.u h λ hb h=>jS.u h λ L hL h=>jS.u h λ C hC h=>jS.u h λ r hr h=>
  have b1:=aF hb; have b2:=aF b1.2
  dH.u4 (T.2▸gv:dH [T.1.1,T.1.2.1,T.1.2.2.1,T.1.2.2.2] vs) (Q:=λ vs=>DW (PV W X hX 2 j cB) 802 vs m outs) λ u v w z g1 g2 g3 g4=>have g1:ng R.1 u:=(R.2▸g1:GV (.gr R.1) u)
   (lC g2 p.2).symm▸(lC g3 x.2).symm▸(lC g4 y.2).symm▸am h▸UD gm (Sv (W:=W) (X:=X) (hX:=hX) (j:=j) (cB:=cB) (d:=0) g1 b1.1 b2.1 b2.2 hL hC hr) λ aa=>g1.eW
def Uq:x4:=λ f ts tm=>aY (aT f 865) (S1 ts tm) (aY (aT f 802) (Zr ts tm) none)
theorem PA{f:au}{ts:ae TV}{tm:ae TO}{outs:ae Out}(h:Uq f ts tm=af outs){vs:ae AV}{m:ae AO}(gv:dH ts vs)(gm:GM tm m):DW (PV W X hX 2 j cB) f vs m outs:=
 condB h (λ q h=>(aL q).symm▸MP h gv gm) λ aa h=>condB h (λ q h=>(aL q).symm▸QL h gv gm) λ aa h=>cm h
end
def YC(o:TO):aq {u:e6 // o= .ns [] []}:=match o with
 | .ns [] []=>af ⟨(),rfl⟩
 |_=>none
def S0(ts:ae TV)(tm:ae TO):aq (ae Out):=ob (ze ts) λ t=>ob (Wb 567 t.1 tm) λ e=>jS (gW tm e.1.2) λ o ho=>ob (YC o) λ aa=>nB (s7 [e.1.2,e.1.1] tm.length) (af [(.ex .none,q8 (tm++[.ba]) e.1.2 (.enc tm.length 0))])
def Zq(ts:ae TV)(tm:ae TO):aq (ae Out):=ob (ze ts) λ t=>ob (Z4 t.1 tm) λ e=>nB (bB e.1.2.2.2 19000&&(yj tm e.1.2.1 e.1.2.2.1&&s7 [e.1.2.1,e.1.1,e.1.2.2.1] tm.length)) (af [(.JT 100000,q8 tm e.1.2.1 (.ns [13,14,15,16] [.ai, .ai, .ai, .ex (.own e.1.2.2.1)]))])
theorem sd:∀{m l:ae AO} {i:Nat} {o x:AO},bM m i=af x->bz (m++l) i o=bz m i o++l
 |[],_,_,_,_=>λ h=>cm h
 |v::r,l,0,o,x=>λ h=>rfl
 |v::r,l,i+1,o,x=>λ h=>ah (v::·) (sd (m:=r) h)
section
variable{prog:aK}{w:bw}{W:WK prog w}{X:BM->Prop}{hX:∀G G',dG G G'->X G->X G'}{tm:ae TO}{m:ae AO}{e je q L:Nat}
theorem P8(gm:GM tm m)(hi:gW tm e=af (.inst 567 je))(ho:gW tm je=af (.ns [] []))(sel:s7 [je,e] tm.length=true):DW (PQ W X hX 4) 529 [.own e] m [(.ex .none,q8 (tm++[.ba]) je (.enc tm.length 0))]:=
 have N:=(qI sel).1
 have m1:=gm.inst hi
 have m2:bM m je=af (.ns [] []):=(gm.at ho).elim λ o z=>aD z.2 λ us y=>z.1.trans (ah af (y.1.trans (ah (AO.ns []) (show us=[] from y.2))))
 have D:fy (PQ W X hX 4) 529 [.own e] m λ v m'=>v= .none/\m'=bz m je (.ns [13,14,15,16] [.int 65536, .int 0, .int 11, .own m.length])++[.ba []]:=
  fy.use [je,e] (K_ (W:=W) (X:=X) (hX:=hX) (d:=2)) rfl (gm.len▸sel) rfl (bZ m2<|bZ m1<|rfl) λ v m' j=>⟨ah (eA (eW [je,e] m.length)) j.1,(ah (upd (eW [je,e] m.length) [je,e] · m) j.2).trans
   (ah (·++[AO.ba []]) (mx ((dV (mO N 1 0 rfl rfl rfl)).trans m1):bz (bz m je (.ns [13,14,15,16] [.int 65536, .int 0, .int 11, .own m.length])) e (.inst 567 je)=_))⟩
 D.elim λ v z=>z.elim λ m' z=>⟨v,m',⟨_,be.mpr rfl,z.1.1,z.1.2.symm▸sd m2▸GM.Uf (gm.app (o:= .ba) (o':= .ba []) ⟨[],rfl⟩ rfl) (i:=je) (q:=tm.length) (L:=0) (o:= .ns [] []) (xv ho) rfl zw
  ⟨65536,0,11,[],gm.len▸rfl,gm.len▸qe,pi.start,cF _⟩⟩,z.2⟩
theorem Uu(gm:GM tm m)(A:BH tm e je q L)(lo:yj tm je q=true)(sel:s7 [je,e,q] tm.length=true)(hL:L<=19000):DW (PQ W X hX 4) 564 [.own e] m [(.JT 100000,q8 tm je (.ns [13,14,15,16] [.ai, .ai, .ai, .ex (.own q)]))]:=
 have N:=(qI sel).1
 A.u gm λ size code left bs E lb=>
  have D:fy (PQ W X hX 4) 564 [.own e] m λ v m'=>(∃l,v= .j9 l/\l.length < 100000)/\∃(size code left:Int) (bs:ae b7),m'=bz (bz m je (.ns [13,14,15,16] [.int size, .int code, .int left, .own q])) q (.ba bs):=
   fy.use [je,e,q] (Lk (W:=W) (X:=X) (hX:=hX) (d:=0) E.E (aU (aG lb hL) (by decide))) rfl (gm.len▸sel) rfl (bZ E.o<|bZ E.i<|bZ E.b<|rfl) λ v m' j=>⟨j.1.imp λ l y=>⟨ah (eA (eW [je,e,q] m.length)) y.1,y.2⟩,
    j.2.imp λ size=> .imp λ code=> .imp λ left=> .imp λ bs y=>(ah (upd (eW [je,e,q] m.length) [je,e,q] · m) (show _=encM size code left bs from y)).trans ((bS _).trans (ah (bz · q (AO.ba bs)) (mx ((dV (mO N 1 0 rfl rfl rfl)).trans E.i):bz (bz m je (.ns [13,14,15,16] [.int size, .int code, .int left, .own q])) e (.inst 567 je)=_)))⟩
  D.elim λ v z=>z.elim λ m' z=>z.1.1.elim λ l y=>z.1.2.elim λ size k=>k.elim λ code k=>k.elim λ left k=>k.elim λ bs k=>⟨v,m',⟨_,be.mpr rfl,⟨l,y.1,eZ y.2⟩,k.symm▸gm.two A.o rfl (gm.enc _ _ q A.o rfl) lo
   ⟨_,rfl, .cons ⟨size,rfl⟩ (.cons ⟨code,rfl⟩ (.cons ⟨left,rfl⟩ (.cons rfl rfl)))⟩ λ p hp=>cm hp⟩,z.2⟩
theorem MO{ts:ae TV}{outs:ae Out}(h:S0 ts tm=af outs){vs:ae AV}(gv:dH ts vs)(gm:GM tm m):DW (PQ W X hX 4) 529 vs m outs:=
 ob.u h λ t aa h=>ob.u h λ e aa h=>jS.u h λ o ho h=>ob.u h λ z aa h=>nB.u h λ hc h=>dH.v1 t.2 gv (Q:=λ vs=>DW (PQ W X hX 4) 529 vs m outs) λ v g=>(lC g e.2.1).symm▸am h▸P8 gm e.2.2 (ho.trans (ah af z.2)) hc
theorem QK{ts:ae TV}{outs:ae Out}(h:Zq ts tm=af outs){vs:ae AV}(gv:dH ts vs)(gm:GM tm m):DW (PQ W X hX 4) 564 vs m outs:=
 ob.u h λ t aa h=>ob.u h λ e aa h=>nB.u h λ hc h=>have c1:=aF hc; have c2:=aF c1.2; dH.v1 t.2 gv (Q:=λ vs=>DW (PQ W X hX 4) 564 vs m outs) λ v g=>(lC g e.2.1).symm▸am h▸Uu gm e.2.2 c2.1 c2.2 (aQ c1.1)
def Up:x4:=λ f ts tm=>aY (aT f 536) (Zs ts tm) (aY (aT f 529) (S0 ts tm) (aY (aT f 564) (Zq ts tm) none))
theorem Pz{f:au}{ts:ae TV}{tm:ae TO}{outs:ae Out}(h:Up f ts tm=af outs){vs:ae AV}{m:ae AO}(gv:dH ts vs)(gm:GM tm m):DW (PQ W X hX 4) f vs m outs:=
 condB h (λ q h=>(aL q).symm▸QM h gv gm) λ aa h=>condB h (λ q h=>(aL q).symm▸MO h gv gm) λ aa h=>condB h (λ q h=>(aL q).symm▸QK h gv gm) λ aa h=>cm h
end
section
variable{prog:aK}{w:bw}(W:WK prog w)(X:BM->Prop)(hX:∀G G',dG G G'->X G->X G')(j:aC)
noncomputable def lV:Nat->x4
 |0=>bR
 |n+1=>λ f ts tm=>oe (aY (j&&eK 0 n) (Up f ts tm) none) (oe (Uq f ts tm) (Lh (PV W X hX (2 * n+1) j (lV n)) FT f ts tm))
def PN(n:Nat):cC:=PV W X hX (2 * n+1) j (lV W X hX j n)
theorem qz:∀n,l8 (PN W X hX j n)
 |0=>λ aa aa aa aa h=>cm h
 |n+1=>λ f ts tm outs h vs m gv gm=>oe.v (h:oe (aY (j&&eK 0 n) (Up f ts tm) none) (oe (Uq f ts tm) (Lh (PV W X hX (2 * n+1) j (lV W X hX j n)) FT f ts tm))=af outs)
  (λ k=>condB k (λ q k=>have q:=aF q; DW.le (P:=PQ W X hX 4) (Q:=(PN W X hX j (n+1)).dn) ⟨rfl,rfl,(fH (jG 2 (lU q.2)) 2:2 * 1+2<=2 * n+2), .inr q.1.symm,λ aa h=>h⟩ (Pz (W:=W) (X:=X) (hX:=hX) k gv gm)) λ aa k=>cm k)
  λ k=>oe.v k (λ k=>DW.le (P:=PV W X hX 2 j bR) (Q:=(PN W X hX j (n+1)).dn) ⟨rfl,rfl,(Nat.le_add_left 2 (2 * n):2<=2 * n+2), .inr rfl,λ aa h=>h⟩ (PA (W:=W) (X:=X) (hX:=hX) k gv gm))
   λ k=>DW.le (P:=(PN W X hX j n).up) (Q:=(PN W X hX j (n+1)).dn) ⟨rfl,rfl,(cF _:2 * n+2<=2 * n+2), .inr rfl,λ aa h=>h⟩ (GX (W:=W) (X:=X) (hX:=hX) (j:=j) (cB:=lV W X hX j n) (d:=2 * n) (P:=PN W X hX j n) rfl (qz n) (λ aa h=>h) k gv gm)
end
theorem tu.eW(f:Nat->Nat):∀{us:ae AV},tu us->ew f us=us
 |[]=>λ aa=>rfl
 |v::r=>λ h=>h.1.elim λ i e=>(ah (·::ew f r) (e.symm▸rfl:eA f v=v)).trans (ah (v::·) (tu.eW f h.2))
structure g6(P:cC)(IV sc:AV)(ks:ae (ae Int))(us:ae AV)(sz:Int):Prop where
 i:tu us
 it:∃v xP qn r0 r1,tu xP/\xP.length=ks.length/\tu qn/\qn.length=ks.length/\WC P 640 [sc, .int 2, .own 0] [.bG ks us] (λ v' m=>v'=v/\m= .bG ks xP::r0)/\WC P 49 [IV,v] (.bG ks xP::r0) (λ v' m=>v'= .int sz/\m= .bG ks qn::r1)
noncomputable def allI:(ts:ae TV)->aq {u:e6 // ∀us,dH ts us->tu us}
 |[]=>af ⟨(),λ us g=>g.u0 (Q:=tu) trivial⟩
 |t::r=>ob (tI t) λ x=>ob (allI r) λ y=>af ⟨(),λ us g=>g.uc (Q:=tu) λ u v g1 g2=>⟨x.2 _ g1,y.2 _ g2⟩⟩
abbrev W2(ks:ae (ae Int))(m:ae AO):Prop:=∃us r,m= .bG ks us::r/\tu us/\us.length=ks.length
theorem Uz{ks xO:ae (ae Int)}{ts:ae TV}{r:ae TO}(h:xO=ks)(x:∀us,dH ts us->tu us)(l:ts.length=ks.length):∀m,GM (.bG xO ts::r) m->W2 ks m
 |[],g=>(g.get 0 _ rfl).elim λ aa z=>cm z.1
 |b::m,g=>(g.get 0 _ rfl).elim λ o z=>aD z.2 λ us y=>⟨us,m,ah (·::m) ((am z.1).trans (y.1.trans (ah (AO.bG · us) h))),x _ y.2,y.2.len.trans l⟩
def Ya(ks:ae (ae Int))(t:ae TO):aq {u:e6 // ∀m,GM t m->W2 ks m}:=match t with
 | .bG xO ts::r=>dE (nY xO ks) λ h=>ob (allI ts) λ x=>bE (aT ts.length ks.length) λ hl=>af ⟨(),Uz h x.2 (aL hl)⟩
 |_=>none
noncomputable def ZW(l:ae Out):aq {c:Out // l=[c]}:=match l with
 |[c]=>af ⟨c,rfl⟩
 |_=>none
def Tc(f:x4)(sc iv:TV)(ks:ae (ae Int))(ts:ae TV):aq e6:=ob (allI ts) λ aa=>ob (f 640 [sc, .ex (.int 2), .ex (.own 0)] [.bG ks ts]) λ outs=>ob (ZW outs) λ c=>ob (f 49 [iv,c.1.1] c.1.2) λ outs=>ob (ZW outs) λ e=>ob (tI e.1.1) λ aa=>ob (Ya ks c.1.2) λ aa=>ob (Ya ks e.1.2) λ aa=>af ()
theorem DW.one{P:cC}{f:au}{vs:ae AV}{m:ae AO}{outs:ae Out}{c:Out}(h:DW P f vs m outs)(e:outs=[c]){Q:Prop}(k:∀v m',GV c.1 v->GM c.2 m'->WC P f vs m (λ v' Vi=>v'=v/\Vi=m')->Q):Q:=
 h.elim λ v h=>h.elim λ m' h=>h.1.elim λ o z=>have eo:o=c:=be.mp (e▸z.1); k v m' (eo▸z.2.1) (eo▸z.2.2) h.2
theorem UG{o:TO}{o':AO}(h:GO [o'] o o')(e:mq o=none):GM [o] [o']:=
 ⟨rfl,λ i x=>match i with
  |0=>λ q=>⟨o',rfl,am q▸h⟩
  |_+1=>λ q=>cm q,λ i x p=>match i with
  |0=>λ q hq=>cm (e.symm.trans (am q▸hq))
  |_+1=>λ q=>cm q⟩
section
variable{prog:aK}{w:bw}{W:WK prog w}{X:BM->Prop}{hX:∀G G',dG G G'->X G->X G'}
theorem Rg{n:Nat}{sc iv:TV}{ks:ae (ae Int)}{ts:ae TV}{us:ae AV}{scv IV:AV}(h:Tc (lV W X hX true n) sc iv ks ts=af ())(gs:GV sc scv)(gi:GV iv IV)(g0:dH ts us):∃sz,g6 (PN W X hX true n).dn IV scv ks us sz:=
 ob.u h λ hI aa h=>ob.u h λ outs e1 h=>ob.u h λ c aa h=>ob.u h λ ae9 e2 h=>ob.u h λ e aa h=>ob.u h λ hi aa h=>ob.u h λ a1 aa h=>ob.u h λ a2 aa aa=>
  (qz W X hX true n _ _ _ _ e1 [scv, .int 2, .own 0] [.bG ks us] (.cons gs (.cons rfl (.cons rfl rfl))) (UG (o:= .bG ks ts) ⟨us,rfl,g0⟩ rfl)).one c.2 λ v' m' gv gm z1=>
  (qz W X hX true n _ _ _ _ e2 [IV,v'] m' (.cons gi (.cons gv rfl)) gm).one e.2 λ u Vi gu gm2 z2=>(hi.2 u gu).elim λ sz ez=>(a1.2 _ gm).elim λ xP y=>y.elim λ r0 y=>(a2.2 _ gm2).elim λ qn x=>x.elim λ r1 x=>
   ⟨sz,hI.2 _ g0,v',xP,qn,r0,r1,y.2.1,y.2.2,x.2.1,x.2.2,y.1▸z1,y.1▸x.1▸ez▸z2⟩
end
theorem M3:∀(c a k:Nat),eW.go (f0 a c) (a+c) k=a+k
 |0,a,k=>rfl
 |c+1,a,0=>rfl
 |c+1,a,k+1=>(ah (λ n=>eW.go (f0 (a+1) c) n k) (cV a 1 c:a+1+c=a+c+1).symm).trans ((M3 c (a+1) k).trans (cV a 1 k))
theorem QR(i c L:Nat):eW (i::f0 L c) (L+c)=eW [i] L:=funext λ k=>match k with
 |0=>rfl
 |k+1=>M3 c L k
theorem sS{o:AO}:∀{A B:ae AO} {j:Nat},A.length<=j->∃B',bz (A++B) j o=A++B'
 |[],_,_=>λ aa=>⟨_,rfl⟩
 |_::_,_,0=>λ h=>bt h (jg _)
 |a::A,B,j+1=>λ h=>(sS (A:=A) (B:=B) (lh h)).imp λ aa=>ah (a::·)
theorem zB{f:Nat->Nat}{A:ae AO}:∀(sel:ae Nat) (mem B:ae AO),(∀j∈sel,A.length<=j)->∃B',upd f sel mem (A++B)=A++B'
 |j::sel,o::r,B=>λ h=>(sS (h j aR)).elim λ B1 e=>(zB sel r B1 λ k hk=>h k (aP _ hk)).imp λ B' e'=>(ah (upd f sel r) e).trans e'
 |[],r,B=>λ aa=>⟨_,gT ..⟩
 |_::_,[],B=>λ aa=>⟨B,rfl⟩
theorem sT{a b:AO}:∀{M:ae AO} {i:Nat},bz (bz M i a) i b=bz M i b
 |[],_=>rfl
 |_::_,0=>rfl
 |v::M,i+1=>ah (v::·) (sT (M:=M) (i:=i))
theorem M7{L c j:Nat}(h:j∈f0 L c):L<=j:=(List.mem_range'.mp h).elim λ k z=>z.2▸bq _ _
theorem VK{L c k j:Nat}(h:(f0 L c)[k]?=af j):j=L+k:=
 am (h.symm.trans ((List.getElem?_range' (ir (ju h) JB:k < c)).trans (ah (λ n=>af (L+n)) (Ii k))))
inductive RY(P:cC)(IV sc:AV)(ks:ae (ae Int))(sz:Int)(M:ae AO)(i:Nat):Prop
 |mk (k:AV) (xP qn:ae AV) (r0 r1:ae AO) (q1:tu xP) (l1:xP.length=ks.length) (q2:tu qn) (l2:qn.length=ks.length) (w1:WC P 640 [sc, .int 2, .own i] M λ v m=>v=k/\m=bz M i (.bG ks xP)++r0) (w2:WC P 49 [IV,k] (bz M i (.bG ks xP)++r0) λ v m=>v= .int sz/\m=bz M i (.bG ks qn)++r1)
theorem g6.use{P:cC}{IV sc:AV}{ks:ae (ae Int)}{us:ae AV}{sz:Int}(h:g6 P IV sc ks us sz){M:ae AO}{i:Nat}(hi:bM M i=af (.bG ks us))(cs:∀f,eA f sc=sc)(cI:∀f,eA f IV=IV):RY P IV sc ks sz M i:=by
 rcases h with⟨hI,v,xP,qn,r0,r1,q1,l1,q2,l2,z1,z2⟩
 have cl {us:ae AV} (h:tu us):ly (eW [i] M.length) (.bG ks us)= .bG ks us:=ah (AO.bG ks) (h.eW _)
 have e1:WC P 640 [sc, .int 2, .own i] M λ v' m=>v'=eA (eW [i] M.length) v/\m=bz M i (.bG ks xP)++upd.Jo (eW [i] M.length) r0:=
  WC.FW [i] z1 (ah (λ s=>[s,AV.int 2, .own i]) (cs _).symm) (bN.mpr ⟨c6 (qd hi),rfl⟩) rfl (bZ (hi.trans (ah af (cl hI).symm)) rfl) ⟨rfl,ah (λ o=>bz M i o++upd.Jo (eW [i] M.length) r0) (cl q1)⟩
 rw[s4] at e1
 have L1:(bz M i (.bG ks xP)).length=M.length:=fP ..
 have L2:(bz M i (.bG ks xP)++r0.map (ly (eW [i] M.length))).length=M.length+r0.length:=bj.trans (congr (ah _ L1) (bL _))
 have er:eW (i::f0 M.length r0.length) (bz M i (.bG ks xP)++r0.map (ly (eW [i] M.length))).length=eW [i] M.length:=(ah _ L2).trans (QR i _ _)
 have e2:=WC.Cc z2 (i::f0 M.length r0.length) (bz M i (.bG ks xP)++r0.map (ly (eW [i] M.length))) (dU.mpr ⟨λ q=>fA _ (fw (qd hi) (M7 q)),List.nodup_range'⟩) (ah rH JB) λ k j ao h1 h2=>er.symm▸(match k,h1,h2 with
  |0,h1,h2=>am h1▸am h2▸((dD (L1.symm▸qd hi)).trans ((eO _ _).symm.trans ((sa hi).trans (ah af (cl q1).symm))))
  |k+1,h1,h2=>(VK h1).symm▸(eR (L1.symm▸bq _ _)).trans ((ah (λ n=>(r0.map (ly (eW [i] M.length)))[n]?) ((ah (M.length+k - ·) L1).trans (hV ..))).trans (eT.trans (ah (ef _) h2))))
 rw[er] at e2
 refine(zB (f:=eW [i] M.length) (A:=bz M i (.bG ks qn)) (f0 M.length r0.length) r1 (r0.map (ly (eW [i] M.length))) λ j hj=>(fP ..).symm▸M7 hj).elim λ r1' er'=>?_
 exact⟨_,xP,qn,_,r1',q1,l1,q2,l2,e1,(ah (λ s=>[s,eA (eW [i] M.length) v]) (cI (eW [i] M.length)):ew (eW [i] M.length) [IV,v]=_)▸e2.mono λ u m z=>z.elim λ av z=>z.elim λ m' z=>⟨z.2.1.trans (ah (eA _) z.1.1),z.2.2.1.trans ((ah (upd _ _ · _) z.1.2).trans
  ((ah (upd _ _ r1) ((sd (sa hi)).trans (congr (ah _ (sT.trans (ah (bz M i) (cl q2)))) rfl))).trans er'))⟩⟩
noncomputable def adi:TV:= .rw [(-2,2),(-2,2),(-2,2),(-2,2)]
def v_(r:ae Int):Prop:=rb [(-2,2),(-2,2),(-2,2),(-2,2)] r
noncomputable def cpV(i a:Int):AV:= .inst 713 [19,20,21,22] [.int i, .int a, .int 1, .int 0]
def jy(a:Int)(two:aC)(wd:Int):AV:= .inst 779 [23,24,25,26,27,9] [.any, .int 8, .int 2, .int wd, .lst (aY two [cpV 1 a,cpV 2 1] [cpV 1 a]), .int 2]
noncomputable def jB(pl dc ac:ae Int)(a b:Int):AV:= .inst 847 [30,31,32,33,11,34,4] [.row pl, .row dc, .row ac, .int a, .int b, .int 0, .int 0]
noncomputable def Ds(two:aC)(n0 n1:Nat):ae (ae Int):=(eB n0).map (λ(x:Nat)=>[(0:Int),(x:Int),0])++aY two ((eB n1).map λ(x:Nat)=>[(1:Int),(x:Int),0]) []
noncomputable def oB(two:aC)(n0 n1:Nat)(rows:ae (ae Int)):AV:= .bG (Ds two n0 n1) (rows.map AV.row)
noncomputable def rc(c:aC×ae Int):AV:=aY c.1 (.row c.2) .none
noncomputable def oz{α:Type}(two:aC)(n0:Nat)(l:ae α):ae (ae (ae α)):=aY two [[l.take n0],[l.drop n0]] [[l]]
def sJ(two:aC)(n0:Nat)(cs:ae (aC×ae Int)):AV:= .inst 812 [28,29] [.int 4, .lst ((oz two n0 (cs.map rc)).map λ p=> .lst (p.map AV.lst))]
def G3(two:aC)(n0 n1:Nat)(cs:ae (aC×ae Int)):AV:= .tup [sJ two n0 cs,oB two n0 n1 (cs.map (·.2))]
def ZE(s:ae Int):ae Int:=[FQ s 5 - 2,FQ (gF s 5) 5 - 2,FQ (gF (gF s 5) 5) 5 - 2,FQ (gF (gF (gF s 5) 5) 5) 5 - 2]
def adt(s:ae Int):ae Int:=gF (gF (gF (gF s 5) 5) 5) 5
noncomputable def RK:Nat->ae Int->ae (ae (aC×ae Int)×ae Int)
 |0,s=>[([],s)]
 |n+1,s=>(RK n (gF s 4)).map (λ p=>((false,[0,0,0,0])::p.1,p.2))++(RK n (adt (gF s 4))).map (λ p=>((true,ZE (gF s 4))::p.1,p.2))
theorem Tk(s:ae Int): -2<=FQ s 5 - 2/\FQ s 5 - 2<=2:=by
 have h:=nz s (top:=5) (by decide)
 omega
theorem Q0(s:ae Int):v_ (ZE s):=⟨_,_,rfl,(Tk _).1,(Tk _).2,_,_,rfl,(Tk _).1,(Tk _).2,_,_,rfl,(Tk _).1,(Tk _).2,_,_,rfl,(Tk _).1,(Tk _).2,rfl⟩
theorem QZ:v_ [0,0,0,0]:=⟨_,_,rfl,by decide,by decide,_,_,rfl,by decide,by decide,_,_,rfl,by decide,by decide,_,_,rfl,by decide,by decide,rfl⟩
def nL(c:aC×ae Int):Prop:=v_ c.2/\(c.1=false->c.2=[0,0,0,0])
structure Xe(n:Nat)(p:ae (aC×ae Int)×ae Int):Prop where
 n:p.1.length=n
 l:p.2.length=2
 c:∀c∈p.1,nL c
theorem A5:∀(n:Nat) (s:ae Int),s.length=2->∀p∈RK n s,Xe n p
 |0,s,hs,p,hp=>be.mp hp▸⟨rfl,hs,sy⟩
 |n+1,s,hs,p,hp=>(fS.mp hp).elim
   (λ hp=>(dN.mp hp).elim λ q z=>have y:=A5 n _ rfl q z.1; z.2▸⟨ah (·+1) y.n,y.l,all2 ⟨QZ,λ aa=>rfl⟩ y.c⟩)
   λ hp=>(dN.mp hp).elim λ q z=>have y:=A5 n _ rfl q z.1; z.2▸⟨ah (·+1) y.n,y.l,all2 ⟨Q0 _,λ e=>nomatch e⟩ y.c⟩
theorem T1:∀{c:aC×ae Int},nL c->rc c= .row c.2\/rc c= .none/\c.2=[0,0,0,0]
 |(true,_),_=> .inl rfl
 |(false,_),h=> .inr ⟨rfl,h.2 rfl⟩
theorem vn:∀{cs:ae (aC×ae Int)},(∀c∈cs,nL c)->zH (cs.map (·.2)) (cs.map rc)
 |[],_=>rfl
 |c::r,h=>⟨_,_,rfl,T1 (h c aR),vn λ d hd=>h d (aP _ hd)⟩
theorem Aj{two:aC}{n0:Nat}{cs:ae (aC×ae Int)}(h:∀c∈cs,nL c):ng (oz two n0 (cs.map (·.2))) (sJ two n0 cs):=by
 refine⟨_,rfl,?_⟩
 cases two with
 |false=>exact⟨_,_,rfl,⟨_,rfl,⟨_,_,rfl,⟨_,rfl,vn h⟩,rfl⟩⟩,rfl⟩
 |true=>
  have e1:(cs.map (·.2)).take n0=(cs.take n0).map (·.2):=List.map_take.symm
  have e2:(cs.map (·.2)).drop n0=(cs.drop n0).map (·.2):=List.map_drop.symm
  have e3:(cs.map rc).take n0=(cs.take n0).map rc:=List.map_take.symm
  have e4:(cs.map rc).drop n0=(cs.drop n0).map rc:=List.map_drop.symm
  refine⟨_,_,rfl,⟨_,rfl,⟨_,_,rfl,⟨_,rfl,?_⟩,rfl⟩⟩,_,_,rfl,⟨_,rfl,⟨_,_,rfl,⟨_,rfl,?_⟩,rfl⟩⟩,rfl⟩
  ·show zH ((cs.map (·.2)).take n0) ((cs.map rc).take n0)
   rw[e1,e3]; exact vn λ c hc=>h c (F5 hc)
  ·show zH ((cs.map (·.2)).drop n0) ((cs.map rc).drop n0)
   rw[e2,e4]; exact vn λ c hc=>h c (F4 hc)
theorem DW.src{P:cC}{f:au}{vs:ae AV}{m:ae AO}{outs:ae Out}(h:DW P f vs m outs){α:Type}{l:ae α}{g:α->AV}{k:α->ae Int}(e:outs=l.map λ a=>(.ex (g a),[.ix (k a)])):∃a∈l,WC P f vs m λ v m'=>v=g a/\m'=[.il (k a)]:=
 h.elim λ v h=>h.elim λ m' h=>h.1.elim λ o ho=>(dN.mp (show o∈l.map λ a=>((.ex (g a),[.ix (k a)]):Out) from e▸ho.1)).elim λ a ha=>⟨a,ha.1,h.2.mono λ v' Vi z=>
  have gv:GV (.ex (g a)) v:=(ah (GV ·.1 v) ha.2).mpr ho.2.1
  have gm:GM [.ix (k a)] m':=(ah (GM ·.2 m') ha.2).mpr ho.2.2
  ⟨z.1.trans gv,z.2.trans ((gm.get 0 _ rfl).elim λ o q=>(DX.mp gm.len.symm).elim λ a ea=>ea.trans (ah (λ x=>[x]) ((am ((ah (bM · 0) ea).symm.trans q.1)).trans q.2)))⟩⟩
theorem GM.src(r:ae Int):GM [.ix r] [.il r]:=⟨rfl,(λ i o e=>match i,e with
 |0,e=>am e▸⟨_,rfl,rfl⟩),(λ i o q e hq=>match i,e with
 |0,e=>nomatch (ah mq (am e)).trans hq)⟩
section
variable{prog:aK}{w:bw}{W:WK prog w}{X:BM->Prop}{hX:∀G G',dG G G'->X G->X G'}{x y:Int}
noncomputable def i4:ae (Int×aC×Int):=[(1,false,2),(1,false,4),(1,true,2),(1,true,4),(2,false,2),(2,false,4),(2,true,2),(2,true,4)]
theorem PR:lV W X hX false 5 872 [.ex (.own 0)] [.ix [x,y]]=af (i4.map λ c=>(.ex (jy c.1 c.2.1 c.2.2),[.ix (gF (gF (gF [x,y] 2) 2) 2)])):=by kernel_rfl
noncomputable def bi(c:Int×aC×Int):Nat×Nat:=(aY (c.1==1&&c.2.2==2) 1 2,aY c.2.1 (aY (c.1==1&&c.2.2==4) 2 1) 0)
theorem Us:(i4.map λ c=>ob (lV W X hX false 5 877 [.ex (.own 0), .ex (jy c.1 c.2.1 c.2.2)] [.ix [x,y]]) (fzL 1))=i4.map λ c=>af ((RK ((bi c).1+(bi c).2) [x,y]).map λ p=>(.ex (G3 c.2.1 (bi c).1 (bi c).2 p.1),[.ix p.2])):=by kernel_rfl
noncomputable abbrev ul:=ae Int×ae Int×ae Int×Int×Int
noncomputable def ul.v(c:ul):AV:=jB c.1 c.2.1 c.2.2.1 c.2.2.2.1 c.2.2.2.2
def VX(s:ae Int):ae (ul×ae Int):=[
 (([0],[0],[0],1,3),gF (gF (gF s 2) 1) 2),(([0],[0],[1],1,3),gF (gF (gF s 2) 1) 2),
 (([0],[0],[0],0,0),gF (gF (gF (gF s 2) 2) 1) 2),(([0],[1],[0],0,0),gF (gF (gF (gF s 2) 2) 1) 2),
 (([0],[0],[0],0,0),gF (gF (gF s 2) 2) 2),(([0],[1],[0],0,0),gF (gF (gF s 2) 2) 2)]
def VY(s:ae Int):ae (ul×ae Int):=[
 (([0],[0],[0],1,3),gF (gF (gF s 2) 2) 2),(([0],[0],[1],1,3),gF (gF (gF s 2) 2) 2),(([1],[0],[0],1,3),gF (gF (gF s 2) 2) 2),(([1],[0],[1],1,3),gF (gF (gF s 2) 2) 2),
 (([0],[0],[0],0,0),gF (gF (gF (gF s 2) 2) 2) 2),(([0],[1],[0],0,0),gF (gF (gF (gF s 2) 2) 2) 2),(([1],[0],[0],0,0),gF (gF (gF (gF s 2) 2) 2) 2),(([1],[1],[0],0,0),gF (gF (gF (gF s 2) 2) 2) 2),
 (([0,1],[0,0],[0,0],0,0),gF (gF (gF (gF s 2) 2) 2) 2),(([0,1],[0,1],[0,0],0,0),gF (gF (gF (gF s 2) 2) 2) 2),(([0,1],[1,0],[0,0],0,0),gF (gF (gF (gF s 2) 2) 2) 2),(([0,1],[1,1],[0,0],0,0),gF (gF (gF (gF s 2) 2) 2) 2)]
def jD(two:aC)(s:ae Int):ae (ul×ae Int):=aY two (VY s) (VX s)
theorem VW{a wd:Int}{two:aC}:lV W X hX false 5 882 [.ex (.own 0), .ex (jy a two wd)] [.ix [x,y]]=af ((jD two [x,y]).map λ c=>(.ex c.1.v,[.ix c.2])):=by
 cases two<;>kernel_rfl
theorem oU{j:aC}{n:Nat}{f:au}{ts:ae TV}{tm:ae TO}{outs:ae Out}(e:lV W X hX j n f ts tm=af outs){vs:ae AV}{m:ae AO}(gv:dH ts vs)(gm:GM tm m):DW (PN W X hX j n) f vs m outs:=(qz W X hX j n f ts tm outs e vs m gv gm).le (cC.Sq _)
theorem mT{r:ae Int}(h:r.length=2):∃x y,r=[x,y]:=by
 match r,h with
 |[x,y],_=>exact⟨x,y,rfl⟩
theorem PP{r:ae Int}(hr:r.length=2):∃c∈i4,∃r',r'.length=2/\WC (PN W X hX false 5) 872 [.own 0] [.il r] λ v m=>v=jy c.1 c.2.1 c.2.2/\m=[.il r']:=by
 obtain⟨x,y,rfl⟩:=mT hr
 obtain⟨c,hc,h⟩:=(oU (vs:=[.own 0]) (m:=[.il [x,y]]) (PR (W:=W) (X:=X) (hX:=hX) (x:=x) (y:=y)) ⟨_,_,rfl,rfl,rfl⟩ (GM.src _)).src (g:=λ c:Int×aC×Int=>jy c.1 c.2.1 c.2.2) (k:=λ aa=>gF (gF (gF [x,y] 2) 2) 2) rfl
 exact⟨c,hc,_,rfl,h⟩
theorem Ur{c:Int×aC×Int}(hc:c∈i4){r:ae Int}(hr:r.length=2):∃cs r',cs.length=(bi c).1+(bi c).2/\r'.length=2/\(∀c∈cs,nL c)/\
  WC (PN W X hX false 5) 877 [.own 0,jy c.1 c.2.1 c.2.2] [.il r] λ v m=>v=G3 c.2.1 (bi c).1 (bi c).2 cs/\m=[.il r']:=by
 obtain⟨x,y,rfl⟩:=mT hr
 exact ob.u (r_ Us c hc) λ outs e1 e2=>((oU (vs:=[.own 0,jy c.1 c.2.1 c.2.2]) (m:=[.il [x,y]]) e1 (.cons rfl (.cons rfl rfl)) (GM.src _)).fz e2).src (g:=λ p:ae (aC×ae Int)×ae Int=>G3 c.2.1 (bi c).1 (bi c).2 p.1) (k:=λ p=>p.2) rfl|>.elim λ p hp=>
  have z:=A5 _ _ rfl p hp.1; ⟨_,_,z.n,z.l,z.c,hp.2⟩
noncomputable def placesOf(two:aC):ae (ae Int):=aY two [[0],[1],[0,1]] [[0]]
structure Xd(two:aC)(c:ul×ae Int):Prop where
 l:c.2.length=2
 p:c.1.1∈placesOf two
theorem Dz(two:aC)(s:ae Int):∀c∈jD two s,Xd two c:=by
 cases two
 ·exact all2 ⟨rfl, .head _⟩ (all2 ⟨rfl, .head _⟩ (all2 ⟨rfl, .head _⟩ (all2 ⟨rfl, .head _⟩ (all2 ⟨rfl, .head _⟩ (all2 ⟨rfl, .head _⟩ (sy))))))
 ·exact all2 ⟨rfl, .head _⟩ (all2 ⟨rfl, .head _⟩ (all2 ⟨rfl, .tail _ (.head _)⟩ (all2 ⟨rfl, .tail _ (.head _)⟩ (all2 ⟨rfl, .head _⟩ (all2 ⟨rfl, .head _⟩ (all2 ⟨rfl, .tail _ (.head _)⟩ (all2 ⟨rfl, .tail _ (.head _)⟩ (all2 ⟨rfl, .tail _ (.tail _ (.head _))⟩ (all2 ⟨rfl, .tail _ (.tail _ (.head _))⟩ (all2 ⟨rfl, .tail _ (.tail _ (.head _))⟩ (all2 ⟨rfl, .tail _ (.tail _ (.head _))⟩ (sy))))))))))))
theorem Jr(two:aC)(s:ae Int)(c:ul×ae Int)(h:c∈jD two s):c.2.length=2:=(Dz two s c h).l
theorem Q_(two:aC)(s:ae Int)(c:ul×ae Int)(h:c∈jD two s):c.1.1∈placesOf two:=(Dz two s c h).p
theorem VV{a wd:Int}{two:aC}{r:ae Int}(hr:r.length=2):∃c∈jD two r,WC (PN W X hX false 5) 882 [.own 0,jy a two wd] [.il r] λ v m=>v=c.1.v/\m=[.il c.2]:=by
 obtain⟨x,y,rfl⟩:=mT hr
 exact(oU (vs:=[.own 0,jy a two wd]) (m:=[.il [x,y]]) VW (.cons rfl (.cons rfl rfl)) (GM.src _)).src (g:=λ c:ul×ae Int=>c.1.v) (k:=λ c=>c.2) rfl
end
noncomputable def kK:Ct:={names:=[("frame", .local),("scan", .local),("across", .local),("index", .local),("units_across", .globalImplicit),("range", .globalImplicit),("unit_count", .globalImplicit),("unit_at", .globalImplicit)],aS:=["frame","scan","across","index"]}
def DQ(P:cC):SX P kK:=Nc 2 (q 468 4 468 10) (DT (Ww "units_across" (.fn 647) (q 468 13 468 25)) (iV (e8 0 (q 468 26 468 31)) (iV (e8 1 (q 468 33 468 37)) q7)) (q 468 13 468 38)) (q 468 4 468 38)
def DP(P:cC):SE P kK:=Ia (q 469 17 469 22) (iV (DT (Ww "unit_count" (.fn 654) (q 469 23 469 33)) (iV (e8 0 (q 469 34 469 39)) (iV (e8 1 (q 469 41 469 45)) q7)) (q 469 23 469 46)) q7) (q 469 17 469 47)
def Wm(P:cC):SE P kK:=DT (Ww "unit_at" (.fn 661) (q 470 14 470 21)) (iV (e8 0 (q 470 22 470 27)) (iV (e8 1 (q 470 29 470 33)) (iV (N6 (e8 3 (q 470 35 470 40)) .Mod (e8 2 (q 470 43 470 49)) (q 470 35 470 49)) (iV (N6 (e8 3 (q 470 51 470 56)) .FloorDiv (e8 2 (q 470 60 470 66)) (q 470 51 470 66)) q7)))) (q 470 14 470 67)
def xD(P:cC):ae f5:=Sh (DQ P).bA "index" (q 469 8 469 13) (DP P).bA (Wm P).bA (q 470 8 470 67) (q 470 8 470 67) (q 469 4 470 67)
theorem aag(P Q:cC):xD P=xD Q:=by kernel_rfl
def Yd(K:eJ)(f:au):aC:=y7 K f&&(fdB K kK ["frame","scan"] (fdOf K f) true&&(nT (fdOf K f).params ["frame","scan"]&&Za (fdOf K f).defaults))
structure UK{prog:aK}{w:bw}(W:WK prog w):Prop where
 fn:Yd W.K 668=true
 body:(fdOf W.K 668).body= .stmts (xD (P0 prog w))
noncomputable def UE(P:cC)(a b c:AV):Nat->ae AV->Prop
 |_,[]=>True
 |i,v::r=>(Wm P).ab ⟨[.ex a, .ex b, .ex c, .ex (.int i)],[]⟩=af [(.ex v,⟨[.ex a, .ex b, .ex c, .ex (.int i)],[]⟩)]/\UE P a b c (i+1) r
theorem dH.exact:∀{l x:ae AV},dH (yW l) x->x=l
 |[],_=>id
 |v::r,_=>λ h=>h.uc (Q:=λ x=>x=v::r) λ u t e g=>congr (ah m5 (show u=v from e)) (dH.exact g)
theorem GS.exact{l:ae AV}{τ:St}(h:GS ⟨yW l,[]⟩ τ):τ=⟨l,[]⟩:=congr (ah St.mk (dH.exact h.loc)) (cZ.mp h.mem.len.symm)
theorem GS.of(l:ae AV):GS ⟨yW l,[]⟩ ⟨l,[]⟩:=⟨lr l,⟨rfl,λ i o e=>cm e,λ i o q e=>cm e⟩⟩
theorem D2.Vu{α β:Type}{R:(α->St->Prop)->Prop}{g:β->α->Prop}{b:β}{l:ae AV}(h:D2 R g [(b,⟨yW l,[]⟩)]){v:α}(hv:∀a,g b a->a=v)(K:α->St->Prop)(k:K v ⟨l,[]⟩):R K:=
 h.u λ a τ b' s m ga gs r=>have e:=cU (be.mp m); r K ((hv a (e.1▸ga)).symm▸(GS.exact (e.2▸gs:GS ⟨yW l,[]⟩ τ)).symm▸k)
theorem UE.at{P:cC}{a b c:AV}:∀{Vs:ae AV} {j:Nat},UE P a b c j Vs->∀i,i < Vs.length->(Wm P).ab ⟨[.ex a, .ex b, .ex c, .ex (.int (j+i:Nat))],[]⟩=af [(.ex (fE Vs i),⟨[.ex a, .ex b, .ex c, .ex (.int (j+i:Nat))],[]⟩)]
 |[],_=>λ aa aa h=>bt h (mz _)
 |v::r,j=>λ h i=>match i with
  |0=>λ aa=>h.1
  |i+1=>λ hi=>(oJ j i)▸UE.at h.2 i (iw hi)
theorem GU:∀(Vs:ae AV) (V:Nat->AV) (i:Nat),(∀k,k < Vs.length->V (i+k)=fE Vs k)->Uc V i Vs.length=Vs
 |[],_,_=>λ aa=>rfl
 |v::r,V,i=>λ h=>congr (ah m5 (h 0 (uV _))) (GU r V (i+1) λ k hk=>(ah V (oJ i k)).trans (h (k+1) (gj hk)))
theorem adJ:RS ["frame","scan"]:=λ fd vs=>by kernel_rfl
section
variable{prog:aK}{w:bw}{W:WK prog w}{X:BM->Prop}{hX:∀G G',dG G G'->X G->X G'}{d:Nat}{cB:x4}
theorem aaf:((DQ (PV W X hX (d+1) false cB)).ch&&((DP (PV W X hX (d+1) false cB)).ch&&((Wm (PV W X hX (d+1) false cB)).ch&&pd kK 3 "index")))=true:=by kernel_rfl
def uQ(P:cC)(a b c:AV)(Vs:ae AV):GQ P kK:=⟨q 469 8 469 13,q 470 8 470 67,q 470 8 470 67,q 469 4 470 67,DQ P,DP P,Wm P,a,b,c,Vs.length,fE Vs⟩
theorem NX(fo:l8 (PV W X hX (d+1) false cB)){a b c:AV}{Vs:ae AV}(Og:Builtin.Range.small 0 (Vs.length:Nat) 1=true)
  (h0:(DQ (PV W X hX (d+1) false cB)).ab ⟨[.ex a, .ex b, .ex .undef, .ex .undef],[]⟩=af [(.d8,⟨[.ex a, .ex b, .ex c, .ex .undef],[]⟩)])
  (h1:(DP (PV W X hX (d+1) false cB)).ab ⟨[.ex a, .ex b, .ex c, .ex .undef],[]⟩=af [(.ex (.j_ 0 (Vs.length:Nat) 1),⟨[.ex a, .ex b, .ex c, .ex .undef],[]⟩)]) (h2:UE (PV W X hX (d+1) false cB) a b c 0 Vs):(uQ (PV W X hX (d+1) false cB) a b c Vs).Ok:=
 have k:=aF (aaf (W:=W) (X:=X) (hX:=hX) (d:=d) (cB:=cB))
 have k2:=aF k.2
 have k3:=aF k2.2
 {hj:=rfl,c0:=k.1,c1:=k2.1,ce:=k3.1,ct3:=k3.2,hs:=λ aa aa=>rfl,Og:=Og
  ZF:=λ K k=>D2.Vu (l:=[a,b,c, .undef]) ((DQ _).cO fo _ _ h0 _ (GS.of [a,b, .undef, .undef])) (λ aa=>id) K k
  ZG:=λ K k=>D2.Vu (l:=[a,b,c, .undef]) ((DP _).cO fo _ _ h1 _ (GS.of [a,b,c, .undef])) (λ aa=>id) K k
  run:=λ i hi K k=>D2.Vu (l:=[a,b,c, .int i]) ((Wm _).cO fo _ _ (fB i▸UE.at h2 i hi) _ (GS.of [a,b,c, .int i])) (λ aa=>id) K k}
theorem Jz(U:UK W)(fo:l8 (PV W X hX (d+1) false cB)){a b c:AV}{Vs:ae AV}(cl:∀f,ew f [a,b]=[a,b])(hl:0 < Vs.length)(Og:Builtin.Range.small 0 (Vs.length:Nat) 1=true)
  (h0:(DQ (PV W X hX (d+1) false cB)).ab ⟨[.ex a, .ex b, .ex .undef, .ex .undef],[]⟩=af [(.d8,⟨[.ex a, .ex b, .ex c, .ex .undef],[]⟩)])
  (h1:(DP (PV W X hX (d+1) false cB)).ab ⟨[.ex a, .ex b, .ex c, .ex .undef],[]⟩=af [(.ex (.j_ 0 (Vs.length:Nat) 1),⟨[.ex a, .ex b, .ex c, .ex .undef],[]⟩)]) (h2:UE (PV W X hX (d+1) false cB) a b c 0 Vs):
  qV (PV W X hX (d+2) false cB) 668 [a,b] Vs:=by
 have hf:=aF U.fn
 have hg:=aF hf.2
 have hp:=aF hg.2
 have key:=qV.of (P:=PV W X hX (d+1) false cB) (st:=uQ _ a b c Vs) (NX fo Og h0 h1 h2) (GY hg.1 (U.body.trans (ah fZ (aag _ _))) λ s vals aa=>sY adJ hp.1 (ME hp.2) s vals) (CP hf.1) rfl (by decide) rfl rfl rfl (DZ hl).symm cl
 exact(ah (qV (PV W X hX (d+2) false cB) 668 [a,b]) ((ah (Uc (fE Vs) 0) (DZ hl)).trans (GU Vs (fE Vs) 0 λ k aa=>ah (fE Vs) (fB k)))).mp key
end
theorem qV.le{P Q:cC}(x:P.Le Q){f:au}{vs Vs:ae AV}(h:qV P f vs Vs):qV Q f vs Vs:=by
 refine⟨λ A G ρ mem s us R room ja M v k=>?_⟩
 have h1:=h.run A G ρ mem s us R (room.less x.d) (x.ja G ja) M v
 rw[x.prog,x.w] at h1
 exact h1 k
noncomputable def ivS(fr sc:AV)(R:ae (ae (ae (ae Int))))(iv:Int):AS:=⟨[.ex fr, .gr R, .ex sc, .ex (.int iv), .ex (.own 1), .ex (.int 0), .ex .undef, .ex .undef, .ex .undef, .ex .undef, .ex .undef],[.lst [], .lst [.ex (.own 0)]]⟩
noncomputable def Ku:(l:ae (AF×AS))->aq {u:e6 // ∀o∈l,o.1= .d8/\∀σ,GS o.2 σ->fE σ.loc 4= .own 1}
 |[]=>af ⟨(),λ aa h=>nomatch h⟩
 |(.d8,s)::r=>ob (Ku r) λ k=>match h:RG s.loc 4 with
  |some (.ex (.own 1))=>af ⟨(),λ o ho=>by
   rcases bQ.mp ho with rfl|ho
   ·refine⟨rfl,λ σ gs=>?_⟩
    obtain⟨u,_,e,g⟩:=t8 gs.loc h
    rw[e]; exact g
   ·exact k.2 o ho⟩
  |_=>none
 |_=>none
def ivB(P:cC)(fr sc:AV)(R:ae (ae (ae (ae Int))))(iv:Int)(Vs:ae AV):aq (ae Out):=ob (Co (np P).st (kN P).ab 12 (.fz (yW Vs)) (ivS fr sc R iv)) λ outs=>ob (Ku outs) λ aa=>fzL 0 (outs.map λ o=>(.ex (.own 1),o.2.mem))
section
variable{prog:aK}{w:bw}{W:WK prog w}{X:BM->Prop}{hX:∀G G',dG G G'->X G->X G'}
theorem GM.nil:GM [] []:=⟨rfl,λ aa aa e=>cm e,λ aa aa aa e=>cm e⟩
theorem U2{P:cC}(fo:l8 P){Cf Cs:au}{kf ks:ae Nat}{vf vs:ae AV}{R:ae (ae (ae (ae Int)))}{gv:AV}{iv:Int}{Vs:ae AV}{bl:AV}(GC:qV P 668 [.inst Cf kf vf, .inst Cs ks vs] Vs)(hG:ng R gv)
  (h:ivB P (.inst Cf kf vf) (.inst Cs ks vs) R iv Vs=af [(.ex bl,[])]):
  g5 (λ K=>(kH P).run ⟨fill dQ.aS [.inst Cf kf vf,gv, .inst Cs ks vs, .int iv],[]⟩ (iH λ v m=>K (v,m))) λ a=>∃r,Oe 0 a.1 a.2=af r/\r.1=bl/\r.2=[]:=by
 obtain⟨ps,rfl,P6⟩:=id hG
 refine ob.u h λ outs e1 e2=>ob.u e2 λ nx aa e2=>?_
 have g0:GS (ivS (.inst Cf kf vf) (.inst Cs ks vs) R iv) ⟨[.inst Cf kf vf, .inst 812 [28,29] [.int 4, .lst ps], .inst Cs ks vs, .int iv, .own 1, .int 0, .undef, .undef, .undef, .undef, .undef],[.lst [], .lst [.own 0]]⟩:=
  ⟨.cons rfl (.cons hG (.cons rfl (.cons rfl (.cons rfl (.cons rfl (.cons rfl (.cons rfl (.cons rfl (.cons rfl (.cons rfl rfl)))))))))),GM.app (o:= .lst [.ex (.own 0)]) (o':= .lst [.own 0]) (GM.app (t:=[]) (m:=[]) (o:= .lst []) (o':= .lst []) GM.nil ⟨[],rfl,rfl⟩ rfl) ⟨_,rfl, .cons rfl rfl⟩ rfl⟩
 refine(sH ((kN P).cO fo) 12 (.fz (yW Vs)) (.fz 0 Vs) ⟨0,Vs,rfl,lr Vs⟩ _ outs e1 _ g0).u λ f σ b t ho gf gs k=>?_
 have n:=nx.2 (b,t) ho
 obtain rfl:f= .d8:=(n.1▸gf:GF .d8 f)
 refine(wU e2 _ (dN.mpr ⟨(b,t),ho,rfl⟩)).elim λ o' z=>ob.u z.2 λ v0 aa e3=>ob.u e3 λ m0 aa e3=>ob.u e3 λ r hr e3=>ob.u e3 λ t ht e3=>?_
 have e5:=cU ((am e3).trans (be.mp z.1))
 refine⟨(.own 1,σ.mem),⟨r,(congr (ah (Oe 0) (v0.2 _ rfl)) (m0.2 σ.mem σ.mem gs.mem.len.symm gs.mem.get)).trans hr,by injection e5.1,cZ.mp (t.2.1.symm.trans (ah f4 e5.2))⟩,λ K hk=>?_⟩
 show ∃Vs,qV P 668 [.inst Cf kf vf, .inst Cs ks vs] Vs/\∃N,js (np P).set (kN P).run N (.fz 0 Vs) _ _
 refine⟨Vs,GC,12,k _ ?_⟩
 show ldK (fE σ.loc 4) σ λ v aI=>K (v,aI.mem)
 exact(n.2 σ gs).symm▸hk
noncomputable def qZ(p:Int×ae Int):AV:= .tup [.int p.1, .row p.2]
noncomputable def la(l:ae (ae (Int×ae Int))):AV:= .lst (l.map λ b=> .lst (b.map qZ))
def Kh(P:cC)(a b:AV)(c:Int)(Vs:ae AV):Prop:=(DQ P).ab ⟨[.ex a, .ex b, .ex .undef, .ex .undef],[]⟩=af [(.d8,⟨[.ex a, .ex b, .ex (.int c), .ex .undef],[]⟩)]/\
 (DP P).ab ⟨[.ex a, .ex b, .ex (.int c), .ex .undef],[]⟩=af [(.ex (.j_ 0 (Vs.length:Nat) 1),⟨[.ex a, .ex b, .ex (.int c), .ex .undef],[]⟩)]/\UE P a b (.int c) 0 Vs
noncomputable def oC(pl:ae Int):ae (ae (ae Int)):=match pl with
 |[_]=>[[[0]],[[0,0]],[[0],[0]]]
 |_=>[[[0,1]],[[0,1,0,1]],[[0,1],[0,1]],[[0,0,1]]]
structure Kd where
 sc:AV
 two:aC
 ks:ae (ae Int)
 lo:Int
 hi:Int
noncomputable def E9(pl ac:ae Int):ae Kd:=[⟨jB pl [0] [0] 1 3,false,[[1,0]],1,3⟩,⟨jB pl [0] [1] 1 3,false,[[1,1]],1,3⟩,⟨jB pl [0] ac 0 0,false,[[0,0]],0,85⟩,⟨jB pl [1] ac 0 0,false,[[0,1]],0,85⟩,⟨jB pl [0,0] ac 0 0,true,[[0,0]],0,85⟩,⟨jB pl [1,1] ac 0 0,true,[[0,1]],0,85⟩,⟨jB pl [0,1] ac 0 0,true,[[0,0],[0,1]],0,85⟩,⟨jB pl [1,0] ac 0 0,true,[[0,0],[0,1]],0,85⟩]
noncomputable def shB(two:aC):ae (ae (ae Int)):=oC (aY two [0,1] [0])
noncomputable def HC:ae (ae Int)->ae (ae (ae Int))
 |[]=>[]
 |k::r=>[k]::(HC r).map (k::·)
structure J8(P:cC)(fr:AV)(pl:ae Int)(iv:Int)(rv gv:AV)(rows:ae (ae Int))(bl:ae (ae (Int×ae Int))):Prop where
 law:∀dc ac s e,WC P 892 [fr,jB pl dc ac s e,rv, .int iv] [] λ v m=>v=la bl/\m=[]
 own:∀dc ac s e,WC P 675 [fr,gv,jB pl dc ac s e, .int iv] [] λ v m=>v=la bl/\m=[]
 shp:bl.map (·.map (·.1))∈oC pl
 rok:∀b∈bl,∀p∈b,p.2∈rows
theorem WC.Hq{P:cC}{f:au}{vs:ae AV}{v:AV}(h:DW P f vs [] [(.ex v,[])]):WC P f vs [] λ v' m'=>v'=v/\m'=[]:=by
 obtain⟨a,m,⟨o,ho,gv,gm⟩,w⟩:=h
 obtain rfl:=be.mp ho
 rw[show a=v from gv,cZ.mp gm.len.symm] at w
 exact w
def PG(W:WK prog w)(X:BM->Prop)(hX:∀G G',dG G G'->X G->X G'):cC:=PV W X hX 20 false bR
theorem RD{n:Nat}(U:UK W){a b:AV}{c:Int}{Vs:ae AV}(cl:∀f,ew f [a,b]=[a,b])(hl:0 < Vs.length)(Og:Builtin.Range.small 0 (Vs.length:Nat) 1=true)(h:Kh (PN W X hX false n) a b c Vs):qV (PN W X hX false (n+1)) 668 [a,b] Vs:=
 qV.le (P:=PV W X hX (2 * n+2) false (lV W X hX false n)) (Q:=PN W X hX false (n+1)) ⟨rfl,rfl,by show 2 * n+2<=2 * (n+1)+1; omega, .inl rfl,λ aa h=>h⟩ (Jz (W:=W) (X:=X) (hX:=hX) (d:=2 * n) (cB:=lV W X hX false n) U (qz W X hX false n) cl hl Og h.1 h.2.1 h.2.2)
theorem acF{n:Nat}{vs:ae AV}{bl:AV}(hl:vs.length=4)(h:g5 (λ K=>(kH (PN W X hX false n)).run ⟨fill dQ.aS vs,[]⟩ (iH λ v m=>K (v,m))) λ a=>∃r,Oe 0 a.1 a.2=af r/\r.1=bl/\r.2=[]):
  WC (PV W X hX (2 * n+2) false (lV W X hX false n)) 675 vs [] λ v m=>v=bl/\m=[]:=by
 have d:=qy (W:=W) (X:=X) (hX:=hX) (j:=false) (cB:=lV W X hX false n) (d:=2 * n) (i:=35) (e:=fe 675 dQ ["frame","grid","scan","interval"] kH) (vs:=vs) (m:=[]) (I:=λ v m=>∃r,Oe 0 v m=af r/\r.1=bl/\r.2=[]) rfl rfl hl h
 obtain⟨v,m,⟨rfl,rfl⟩,z⟩:=fy.fz (I':=λ v m=>v=bl/\m=[]) d λ v m ⟨r,e1,e2,e3⟩=>⟨r,e1,e2,e3⟩
 exact z
theorem PNG{n:Nat}(h:2 * n+1<=20):(PN W X hX false n).Le (PG W X hX):=⟨rfl,rfl,h, .inl rfl,λ aa h=>h⟩
theorem abm{n:Nat}(h:2 * n+2<=20):(PV W X hX (2 * n+2) false (lV W X hX false n)).Le (PG W X hX):=⟨rfl,rfl,h, .inl rfl,λ aa h=>h⟩
theorem YG(U:UK W){a wd iv c:Int}{two:aC}{pl:ae Int}{rv gv:AV}{R:ae (ae (ae (ae Int)))}{rows:ae (ae Int)}{bl:ae (ae (Int×ae Int))}{Vs:ae AV}(hG:ng R gv)(hl:0 < Vs.length)(Og:Builtin.Range.small 0 (Vs.length:Nat) 1=true)
  (hu:∀dc ac s e,Kh (PN W X hX false 5) (jy a two wd) (jB pl dc ac s e) c Vs) (hi:∀dc ac s e,ivB (PN W X hX false 6) (jy a two wd) (jB pl dc ac s e) R iv Vs=af [(.ex (la bl),[])])
  (hw:∀dc ac s e,lV W X hX false 5 892 [.ex (jy a two wd), .ex (jB pl dc ac s e), .ex rv, .ex (.int iv)] []=af [(.ex (la bl),[])]) (hs:bl.map (·.map (·.1))∈oC pl) (hr:∀b∈bl,∀p∈b,p.2∈rows):J8 (PG W X hX) (jy a two wd) pl iv rv gv rows bl:=by
 refine⟨λ dc ac s e=>?_,λ dc ac s e=>?_,hs,hr⟩
 ·have z:=WC.Hq (oU (vs:=[jy a two wd,jB pl dc ac s e,rv, .int iv]) (m:=[]) (hw dc ac s e) ⟨_,_,rfl,rfl,_,_,rfl,rfl,_,_,rfl,rfl,_,_,rfl,rfl,rfl⟩ GM.nil)
  exact z.up (PNG (by decide))
 ·have g:=RD U (a:=jy a two wd) (b:=jB pl dc ac s e) (λ f=>by cases two<;>rfl) hl Og (hu dc ac s e)
  have z:=U2 (qz W X hX false 6) (Cf:=779) (kf:=[23,24,25,26,27,9]) (Cs:=847) (ks:=[30,31,32,33,11,34,4]) (gv:=gv) (iv:=iv) g hG (hi dc ac s e)
  exact(acF rfl z).up (abm (by decide))
end
noncomputable def um(f:Int->Int):Int->ae Int->Int
 |b,[]=>b
 |b,v::r=>um f (aY (decide (f v < f b)) v b) r
def TD(P:cC)(lf:au)(ks:ae (ae Int))(us:ae AV)(sz:Int):Prop:=∀M i,bM M i=af (.bG ks us)->WC P lf [.own i] M λ v m=>v= .int sz/\∃qn r,m=bz M i (.bG ks qn)++r
theorem MG{α β:Type}{x:aq α}{a:α}{f:α->aq β}(e:x=af a):ob x f=f a:=e▸rfl
theorem Af{n:Nat}{fg:ae aC}{K:Fl->St->Prop}{f f':Fl}{σ:St}{l:ae AV}{m:ae AO}(e1:VH n σ.mem f=af f')(e2:i5 (lZ n σ.mem 12) (X8 fg σ.loc)=af l)(e3:i5 (yt n σ.mem 12) (Rv n σ.mem)=af m)(h:K f' ⟨l,m⟩):Lq n fg K f σ:=
 Hw (a:=(f',⟨l,m⟩)) ((MG e1).trans ((MG e2).trans (MG e3))) h
theorem mw{set:AV->St->(St->Prop)->Prop}{b:Body}{n k:Nat}{v:AV}{r:ae AV}{σ:St}{K:Fl->St->Prop}(h:set v σ λ aI=>b aI λ f aW=>sj f aW (λ dC=>js set b n (.fz (k+1) r) dC K) K):js set b (n+1) (.fz k (v::r)) σ K:=h
theorem sI{set:AV->St->(St->Prop)->Prop}{b:Body}{n k:Nat}{σ:St}{K:Fl->St->Prop}(h:K .d8 σ):js set b (n+1) (.fz k []) σ K:=h
theorem jv{σ:St}{A:St->Prop}{B:Fl->St->Prop}(h:A σ):sj .d8 σ A B:=h
noncomputable def Pre(k s:Int)(ks:ae (ae Int))(us:ae AV):Prop:=(ks=[]/\us=[])\/(k=0/\s=1/\ks=[[0,0]]/\∃c,us=[.int c])
theorem Pre.u{k s:Int}{ks:ae (ae Int)}{us:ae AV}{Q:Int->Int->ae (ae Int)->ae AV->Prop}(h:Pre k s ks us)(h1:∀k s,Q k s [] [])(h2:∀c,Q 0 1 [[0,0]] [.int c]):Q k s ks us:=
 h.elim (λ z=>z.1▸z.2▸h1 k s) λ z=>z.1▸z.2.1▸z.2.2.1▸z.2.2.2.elim λ c e=>e▸h2 c
theorem Pre.res{k s:Int}{ks:ae (ae Int)}{us:ae AV}(h:Pre k s ks us)(n:Nat)(m:ae AO):yt n m 12 (.bG ks us)=af (.bG ks us):=
 h.u (Q:=λ k s ks us=>yt n m 12 (.bG ks us)=af (.bG ks us)) (λ aa aa=>rfl) λ aa=>rfl
theorem Pre.ZB{k s x:Int}{ks:ae (ae Int)}{us:ae AV}(h:Pre k s ks us)(n:Nat)(m:ae AO):yt n m 12 (.bG (ks++[[k,s]]) (us++[.int x]))=af (.bG (ks++[[k,s]]) (us++[.int x])):=
 h.u (Q:=λ k s ks us=>yt n m 12 (.bG (ks++[[k,s]]) (us++[.int x]))=af (.bG (ks++[[k,s]]) (us++[.int x]))) (λ aa aa=>rfl) λ aa=>rfl
noncomputable def Bo(f:Int->Int)(x:aq Int):AV:=match x with
 |none=> .none
 |some b=> .tup [.int b, .int (f b)]
noncomputable def BY(f:Int->Int)(x:aq Int)(v:Int):aq Int:=match x with
 |none=>af v
 |some b=>af (aY (decide (f v < f b)) v b)
theorem wk(f:Int->Int):∀(r:ae Int) (b:Int),r.foldl (BY f) (af b)=af (um f b r)
 |[],_=>rfl
 |v::r,b=>wk f r _
noncomputable def Bk(k s:Int)(vals:ae Int)(lf:au)(fd a5 a6 a7:AV):ae AV:=[.own 0, .tup [.int k, .int s], .row vals, .fn lf,fd,a5,a6,a7]
section
variable{prog:aK}{w:bw}{W:WK prog w}{X:BM->Prop}{hX:∀G G',dG G G'->X G->X G'}{j:aC}{cB:x4}{d:Nat}{k s v:Int}{f:Int->Int}{vals:ae Int}{ks:ae (ae Int)}{us:ae AV}{lf:au}
def XF(P:cC)(loc:ae AV)(m:ae AO)(K:Fl->St->Prop):Prop:=
 (sIf (tOr (Rs (e8 4 p0) .Is (zD 0 p0) p0) (Rs (e8 7 p0) .Lt (FY (e8 4 p0) (yv 1 p0) p0) p0) p0) (iJ (Nc 4 p0 (Wz (iV (e8 5 p0) (iV (e8 7 p0) q7)) 0 p0) p0) lN) lN p0:SX P d6).run ⟨loc,m⟩ λ f σ=>sj f σ (λ σ=>Lq 1 (G0.getD 0 []) K .d8 σ) (Lq 1 (G0.getD 0 []) K)
theorem abD{qn:ae AV}{r:ae AO}{K:Fl->St->Prop}:XF (PV W X hX (d+1) j cB) (Bk k s vals lf (Bo f none) (.int v) (.own 1) (.int (f v))) ([.bG ks us, .bG (ks++[[k,s]]) qn]++r) K=Lq 1 (G0.getD 0 []) K .d8 ⟨Bk k s vals lf (Bo f (af v)) (.int v) (.own 1) (.int (f v)),[.bG ks us, .bG (ks++[[k,s]]) qn]++r⟩:=by kernel_rfl
theorem abE{qn:ae AV}{r:ae AO}{K:Fl->St->Prop}{b:Int}:XF (PV W X hX (d+1) j cB) (Bk k s vals lf (Bo f (af b)) (.int v) (.own 1) (.int (f v))) ([.bG ks us, .bG (ks++[[k,s]]) qn]++r) K=aY (decide (f v < f b)) (Lq 1 (G0.getD 0 []) K .d8 ⟨Bk k s vals lf (Bo f (af v)) (.int v) (.own 1) (.int (f v)),[.bG ks us, .bG (ks++[[k,s]]) qn]++r⟩) (Lq 1 (G0.getD 0 []) K .d8 ⟨Bk k s vals lf (Bo f (af b)) (.int v) (.own 1) (.int (f v)),[.bG ks us, .bG (ks++[[k,s]]) qn]++r⟩):=by kernel_rfl
theorem Iz(sL:Pre k s ks us){x:aq Int}{o7:AV}(H:TD (PV W X hX (d+1) j cB) lf (ks++[[k,s]]) (us++[.int v]) (f v))(K:Fl->St->Prop)
  (hK:K .d8 ⟨Bk k s vals lf (Bo f (BY f x v)) (.int v) .undef (.int (f v)),[.bG ks us]⟩):(io (PV W X hX (d+1) j cB)).run ⟨Bk k s vals lf (Bo f x) (.int v) .undef o7,[.bG ks us]⟩ K:=
 have e:(io (PV W X hX (d+1) j cB)).run ⟨Bk k s vals lf (Bo f x) (.int v) .undef o7,[.bG ks us]⟩ K=WC (PV W X hX (d+1) j cB) lf [.own 1] [.bG ks us, .bG (ks++[[k,s]]) (us++[.int v])] λ u m=>XF (PV W X hX (d+1) j cB) (Bk k s vals lf (Bo f x) (.int v) (.own 1) u) m K:=
  sL.u (Q:=λ k s ks us=>(io (PV W X hX (d+1) j cB)).run ⟨Bk k s vals lf (Bo f x) (.int v) .undef o7,[.bG ks us]⟩ K=WC (PV W X hX (d+1) j cB) lf [.own 1] [.bG ks us, .bG (ks++[[k,s]]) (us++[.int v])] λ u m=>XF (PV W X hX (d+1) j cB) (Bk k s vals lf (Bo f x) (.int v) (.own 1) u) m K) (λ k s=>by kernel_rfl) λ c=>by kernel_rfl
 have fin (y:aq Int) (qn:ae AV) (r:ae AO) (h:K .d8 ⟨Bk k s vals lf (Bo f y) (.int v) .undef (.int (f v)),[.bG ks us]⟩):Lq 1 (G0.getD 0 []) K .d8 ⟨Bk k s vals lf (Bo f y) (.int v) (.own 1) (.int (f v)),[.bG ks us, .bG (ks++[[k,s]]) qn]++r⟩:=
  Af rfl (by cases y<;>rfl) (bZ (sL.res _ _) rfl) h
 have key (qn:ae AV) (r:ae AO):XF (PV W X hX (d+1) j cB) (Bk k s vals lf (Bo f x) (.int v) (.own 1) (.int (f v))) ([.bG ks us, .bG (ks++[[k,s]]) qn]++r) K:=by
  cases x with
  |none=>exact nf abD (fin (af v) qn r hK)
  |some b=>
   refine nf abE ?_
   rw[show BY f (af b) v=af (aY (decide (f v < f b)) v b) from rfl] at hK
   cases e:decide (f v < f b) with
   |true=>rw[e] at hK; exact fin (af v) qn r hK
   |false=>rw[e] at hK; exact fin (af b) qn r hK
 nf e ((H _ 1 rfl).mono λ u m z=>z.2.elim λ qn y=>y.elim λ r em=>z.1.symm▸em.symm▸key qn r)
theorem C0{P:cC}{v:AV}{σ:St}{K:St->Prop}(h:K (σ.set 5 v)):(lX P).set v σ K:=h
theorem yF(sL:Pre k s ks us){K:Fl->St->Prop}:∀(l:ae Int) (x:aq Int) (i:Nat) (o5 o7:AV),(∀v∈l,TD (PV W X hX (d+1) j cB) lf (ks++[[k,s]]) (us++[.int v]) (f v))->
  (∀o5 o7,K .d8 ⟨Bk k s vals lf (Bo f (l.foldl (BY f) x)) o5 .undef o7,[.bG ks us]⟩)->js (lX (PV W X hX (d+1) j cB)).set (io (PV W X hX (d+1) j cB)).run (l.length+1) (.fz i (bX l)) ⟨Bk k s vals lf (Bo f x) o5 .undef o7,[.bG ks us]⟩ K
 |[],x,i,o5,o7,_,hK=>sI (hK o5 o7)
 |v::r,x,i,o5,o7,H,hK=>mw (C0 (Iz sL (H v aR) _ (jv (yF sL r (BY f x v) (i+1) _ _ (λ y hy=>H y (aP _ hy)) hK))))
theorem Ev{v0:Int}{r:ae Int}(sL:Pre k s ks us)(H:∀v∈v0::r,TD (PV W X hX (d+1) j cB) lf (ks++[[k,s]]) (us++[.int v]) (f v)):
  WC (PV W X hX (d+2) j cB) 56 [.own 0, .tup [.int k, .int s], .row (v0::r), .fn lf] [.bG ks us] λ v m=>v= .tup [.int (um f v0 r), .int (f (um f v0 r))]/\m=[.bG ks us]:=
 (qy (W:=W) (X:=X) (hX:=hX) (j:=j) (cB:=cB) (d:=d) (i:=4) (e:=fe 56 d6 ["conditioning","key","values","size_of"] sD) (vs:=[.own 0, .tup [.int k, .int s], .row (v0::r), .fn lf]) (m:=[.bG ks us]) (I:=λ v m=>v= .tup [.int (um f v0 r), .int (f (um f v0 r))]/\m=[.bG ks us]) rfl rfl rfl
  ⟨(.tup [.int (um f v0 r), .int (f (um f v0 r))],[.bG ks us]),⟨rfl,rfl⟩,λ K hK=>nf (B:=∃N,js (lX (PV W X hX (d+1) j cB)).set (io (PV W X hX (d+1) j cB)).run N (.fz 0 (bX (v0::r))) ⟨Bk k s (v0::r) lf (Bo f none) .undef .undef .undef,[.bG ks us]⟩ (pL (iJ (FC (e8 4 p0) p0) lN:SS (PV W X hX (d+1) j cB) d6) (iH λ v m=>K (v,m)))) (by kernel_rfl)
   ⟨_,yF sL (v0::r) none 0 .undef .undef H λ o5 o7=>(ah (λ x=>pL (iJ (FC (e8 4 p0) p0) lN:SS (PV W X hX (d+1) j cB) d6) (iH λ v m=>K (v,m)) .d8 ⟨Bk k s (v0::r) lf (Bo f x) o5 .undef o7,[.bG ks us]⟩) (wk f r v0)).mpr hK⟩⟩).elim λ v z=>z.elim λ m z=>z.1.1▸z.1.2▸z.2
end
theorem WC.anyM{P:cC}{f:au}{vs:ae AV}{v0:AV}(h:WC P f vs [] λ v m=>v=v0/\m=[])(c1:∀f,ew f vs=vs)(c2:∀f,eA f v0=v0)(M:ae AO):WC P f vs M λ v m=>v=v0/\m=M:=by
 refine WC.FW [] h (c1 _).symm rfl rfl rfl ⟨c2 _,?_⟩
 show M++[]=M
 exact bS M
noncomputable def rZ:ae Int:=[16,0,17,32,33,34,48,49,50,51,64,65,66,67,68,80,81,82,83,84,85]
noncomputable def OP:ae Int:=[1,2,3]
def tT(k:ae Int):AV:= .tup (bX k)
section
variable{prog:aK}{w:bw}{W:WK prog w}{X:BM->Prop}{hX:∀G G',dG G G'->X G->X G'}{j:aC}{cB:x4}{d:Nat}{pl dc ac:ae Int}{a b:Int}
theorem r28:lV W X hX false 1 28 [.ex (.int 5)] []=af [(.ex (.row rZ),[])]:=by kernel_rfl
theorem r35:lV W X hX false 1 35 [.ex (.int 2)] []=af [(.ex (.row OP),[])]:=by kernel_rfl
theorem r61:((E9 pl ac).map λ e=>lV W X hX false 1 61 [.ex e.sc] [])=(E9 pl ac).map λ e=>af [(.ex (.lst (e.ks.map tT)),[])]:=by kernel_rfl
theorem WD{n:Nat}(h:2 * n<=d):(PN W X hX false n).Le (PV W X hX (d+1) j cB):=⟨rfl,rfl,by show 2 * n+1<=d+1; omega, .inl rfl,λ aa h=>h⟩
theorem c28(hd:2<=d)(M:ae AO):WC (PV W X hX (d+1) j cB) 28 [.int 5] M λ v m=>v= .row rZ/\m=M:=
 WC.anyM ((WC.Hq (oU (vs:=[.int 5]) (m:=[]) (r28 (W:=W) (X:=X) (hX:=hX)) ⟨_,_,rfl,rfl,rfl⟩ GM.nil)).up (WD (by omega))) (λ aa=>rfl) (λ aa=>rfl) M
theorem c35(hd:2<=d)(M:ae AO):WC (PV W X hX (d+1) j cB) 35 [.int 2] M λ v m=>v= .row OP/\m=M:=
 WC.anyM ((WC.Hq (oU (vs:=[.int 2]) (m:=[]) (r35 (W:=W) (X:=X) (hX:=hX)) ⟨_,_,rfl,rfl,rfl⟩ GM.nil)).up (WD (by omega))) (λ aa=>rfl) (λ aa=>rfl) M
theorem c61{sc:AV}{l:ae AV}(h:lV W X hX false 1 61 [.ex sc] []=af [(.ex (.lst l),[])])(c1:∀f,eA f sc=sc)(c2:∀f,ew f l=l)(hd:2<=d)(M:ae AO):WC (PV W X hX (d+1) j cB) 61 [sc] M λ v m=>v= .lst l/\m=M:=
 WC.anyM ((WC.Hq (oU (vs:=[sc]) (m:=[]) h ⟨_,_,rfl,rfl,rfl⟩ GM.nil)).up (WD (by omega))) (λ f=>by show[eA f sc]=_; rw[c1]) (λ f=>by show AV.lst (ew f l)=_; rw[c2]) M
def KR(pl dc ac:ae Int)(a b:Int)(lf:au)(k s:Int)(o:AV):ae AV:=[jB pl dc ac a b, .int 2, .int 5, .fn lf, .own 0,tT [k,s],o]
def XH(K:Fl->St->Prop):Fl->St->Prop:=Lq 1 (G0.getD 1 []) K
def chT:CS cu:=vm 19 cu (jm 1 (hH (nZ (hH d4) 1))) (f_ / 128 ^ 17)
def ch2(P:cC)(loc:ae AV)(m:ae AO)(K:Fl->St->Prop):Prop:=(chT P).run ⟨loc,m⟩ (XH K)
def T2(k s:Int)(loc:ae AV)(u:AV)(m:ae AO)(K:Fl->St->Prop):Prop:=IU u (.int 0) m λ v=>Jt (.own 0) (tT [k,s]) v ⟨loc,m⟩ λ σ=>XH K .d8 σ
theorem Pre.T2{k s c cc:Int}{ks:ae (ae Int)}{us:ae AV}(h:Pre k s ks us){loc:ae AV}{K:Fl->St->Prop}:Mine.T2 k s loc (.tup [.int c, .int cc]) [.bG ks us, .lst []] K=XH K .d8 ⟨loc,[.bG (ks++[[k,s]]) (us++[AV.int c]), .lst []]⟩:=
 h.u (Q:=λ k s ks us=>Mine.T2 k s loc (.tup [.int c, .int cc]) [.bG ks us, .lst []] K=XH K .d8 ⟨loc,[.bG (ks++[[k,s]]) (us++[AV.int c]), .lst []]⟩) (λ aa aa=>by kernel_rfl) λ aa=>by kernel_rfl
theorem Sk{lf:au}{k s c:Int}{ks:ae (ae Int)}{us:ae AV}(sL:Pre k s ks us){v0:Int}{r:ae Int}{cc:Int}
  (H:WC (PV W X hX (d+1) j cB) 56 [.own 0, .tup [.int k, .int s], .row (v0::r), .fn lf] [.bG ks us] λ v m=>v= .tup [.int c, .int cc]/\m=[.bG ks us]) (K:Fl->St->Prop)
  (hK:K .d8 ⟨KR pl dc ac a b lf k s (.row (v0::r)),[.bG (ks++[[k,s]]) (us++[.int c])]⟩):ch2 (PV W X hX (d+1) j cB) (KR pl dc ac a b lf k s (.row (v0::r))) [.bG ks us] K:=
 nf (B:=re .Om (.row (v0::r)) (.own 1) [.bG ks us, .lst []] λ b'=>aY b' (WC (PV W X hX (d+1) j cB) 56 [.own 0, .tup [.int k, .int s], .row (v0::r), .fn lf] [.bG ks us, .lst []] λ u m=>T2 k s (KR pl dc ac a b lf k s (.row (v0::r))) u m K) (XH K .d8 ⟨KR pl dc ac a b lf k s (.row (v0::r)),[.bG ks us, .lst []]⟩)) (by kernel_rfl)
  (Or.inr ⟨cy _,WC.FW (M:=[.bG ks us, .lst []]) [0] H rfl rfl rfl (bZ (by
   refine sL.u (Q:=λ k s ks us=>bM [.bG ks us, .lst []] 0=af (ly (eW [0] 2) (.bG ks us))) (λ aa aa=>rfl) λ aa=>rfl) rfl) (sL.u (Q:=λ k s ks us=>T2 k s (KR pl dc ac a b lf k s (.row (v0::r))) (.tup [.int c, .int cc]) [.bG ks us, .lst []] K->T2 k s (KR pl dc ac a b lf k s (.row (v0::r))) (eA (eW [0] 2) (.tup [.int c, .int cc])) (upd (eW [0] 2) [0] [.bG ks us] [.bG ks us, .lst []]) K) (λ aa aa h=>h) (λ aa h=>h)
    (nf sL.T2 (Af (l:=KR pl dc ac a b lf k s (.row (v0::r))) rfl rfl (bZ (sL.ZB _ _) rfl) hK)))⟩)
theorem p8(hd:2<=d){lf:au}{k s c:Int}{ks:ae (ae Int)}{us:ae AV}(sL:Pre k s ks us){vals:ae Int}(hk:(k=0/\vals=rZ)\/(k=1/\vals=OP)){cc:Int}
  (H:WC (PV W X hX (d+1) j cB) 56 [.own 0, .tup [.int k, .int s], .row vals, .fn lf] [.bG ks us] λ v m=>v= .tup [.int c, .int cc]/\m=[.bG ks us]) {ov:AV} (K:Fl->St->Prop)
  (hK:K .d8 ⟨KR pl dc ac a b lf k s (.row vals),[.bG (ks++[[k,s]]) (us++[.int c])]⟩):
  (gQ (PV W X hX (d+1) j cB)).run ⟨KR pl dc ac a b lf k s ov,[.bG ks us]⟩ K:=by
 rcases hk with⟨rfl,rfl⟩|⟨rfl,rfl⟩
 ·exact nf (B:=WC (PV W X hX (d+1) j cB) 28 [.int 5] [.bG ks us] λ v m=>ch2 (PV W X hX (d+1) j cB) (KR pl dc ac a b lf 0 s v) m K) (by kernel_rfl) ((c28 hd _).known (Sk sL H K hK))
 ·exact nf (B:=WC (PV W X hX (d+1) j cB) 35 [.int 2] [.bG ks us] λ v m=>ch2 (PV W X hX (d+1) j cB) (KR pl dc ac a b lf 1 s v) m K) (by kernel_rfl) ((c35 hd _).known (Sk sL H K hK))
theorem nR{P:cC}{v:AV}{σ:St}{K:St->Prop}(h:K (σ.set 5 v)):(fm P).set v σ K:=h
theorem UA{ks:ae (ae Int)}{us:ae AV}{rest:ae AO}(hI:i5 (lZ 0 (.bG ks us::rest) 11) us=af us):Oe 0 (.own 0) (.bG ks us::rest)=af (.bG ks us,[]):=
 ah (ob · λ t=>ob (i5 (yt 0 (.bG ks us::rest) 12) (Rv 0 (.bG ks us::rest))) λ m'=>af (t,m')) (ah (ob · λ l=>af (AV.bG ks l)) hI:lZ 0 (.bG ks us::rest) 12 (.own 0)=af (.bG ks us))
theorem AI{P:cC}{f:au}{vs:ae AV}{ks:ae (ae Int)}{us:ae AV}{rest:ae AO}(hI:i5 (lZ 0 (.bG ks us::rest) 11) us=af us)(h:WC P f vs [] λ v m=>v= .own 0/\m= .bG ks us::rest):WC P f vs [] λ v m=>v= .bG ks us/\m=[]:=
 WC.fz (h.mono λ v m q=>⟨(.bG ks us,[]),q.1.symm▸q.2.symm▸UA hI,rfl,rfl⟩)
theorem EI{P:cC}{vs:ae AV}{ks:ae (ae Int)}{us:ae AV}(hI:i5 (lZ 0 [.bG ks us] 11) us=af us)(h:fy P 68 vs [] λ v m=>v= .own 0/\m=[.bG ks us]):WC P 68 vs [] λ v m=>v= .bG ks us/\m=[]:=
 AI hI (h.elim λ v z=>z.elim λ m z=>z.2.mono λ v' m' q=>⟨q.1.trans z.1.1,q.2.trans z.1.2⟩)
theorem KS(hd:1<=d){lf:au}{ks:ae (ae Int)}{cs:ae AV}(Yi:lV W X hX false 1 61 [.ex (jB pl dc ac a b)] []=af [(.ex (.lst (ks.map tT)),[])])(hr:∀f,ew f (ks.map tT)=ks.map tT)(hI:i5 (lZ 0 [.bG ks cs] 11) cs=af cs)
  (h:∀K:Fl->St->Prop,(∀o5 o6,K .d8 ⟨[jB pl dc ac a b, .int 2, .int 5, .fn lf, .own 0,o5,o6],[.bG ks cs]⟩)->∃N,js (fm (PV W X hX (d+2) j cB)).set (gQ (PV W X hX (d+2) j cB)).run N (.fz 0 (ks.map tT)) ⟨[jB pl dc ac a b, .int 2, .int 5, .fn lf, .own 0, .undef, .undef],[.bG [] []]⟩ K):
  WC (PV W X hX (d+3) j cB) 68 [jB pl dc ac a b, .int 2, .int 5, .fn lf] [] λ v m=>v= .bG ks cs/\m=[]:=
 EI hI (qy (W:=W) (X:=X) (hX:=hX) (j:=j) (cB:=cB) (d:=d+1) (i:=6) (e:=fe 68 cu ["scan","n","most","size_of"] k_) rfl rfl rfl ⟨(.own 0,[.bG ks cs]),⟨rfl,rfl⟩,λ K hK=>
  nf (B:=WC (PV W X hX (d+2) j cB) 61 [jB pl dc ac a b] [.bG [] []] λ v m=>Uy (fm (PV W X hX (d+2) j cB)).lD (fm (PV W X hX (d+2) j cB)).set (gQ (PV W X hX (d+2) j cB)).run v ⟨[jB pl dc ac a b, .int 2, .int 5, .fn lf, .own 0, .undef, .undef],m⟩
    (pL (iJ (FC (e8 4 p0) p0) lN:SS (PV W X hX (d+2) j cB) cu) (iH λ v m=>K (v,m)))) (by kernel_rfl) ((c61 (d:=d+1) Yi (λ aa=>rfl) hr (eI hd) _).known (h _ λ aa aa=>hK))⟩)
theorem Pb(hd:1<=d){lf:au}{k s:Int}{vals:ae Int}(hk:(k=0/\vals=rZ)\/(k=1/\vals=OP)){v0:Int}{r:ae Int}(hv:vals=v0::r){f:Int->Int}(Yi:lV W X hX false 1 61 [.ex (jB pl dc ac a b)] []=af [(.ex (.lst [tT [k,s]]),[])])
  (H:∀v∈vals,TD (PV W X hX (d+1) j cB) lf [[k,s]] [.int v] (f v)):WC (PV W X hX (d+3) j cB) 68 [jB pl dc ac a b, .int 2, .int 5, .fn lf] [] λ v m=>v= .bG [[k,s]] [.int (um f v0 r)]/\m=[]:=by
 subst hv
 exact KS (ks:=[[k,s]]) hd Yi (λ aa=>rfl) rfl λ K hK=>⟨2,mw (nR (p8 (d:=d+1) (eI hd) (ks:=[]) (us:=[]) (.inl ⟨rfl,rfl⟩) hk (Ev (d:=d) (.inl ⟨rfl,rfl⟩) H) _ (jv (sI (hK _ _)))))⟩
theorem Pc(hd:1<=d){lf:au}{f:Int->Int}{g:Int->Int->Int}(Yi:lV W X hX false 1 61 [.ex (jB pl dc ac a b)] []=af [(.ex (.lst [tT [0,0],tT [0,1]]),[])])
  (H:∀v∈rZ,TD (PV W X hX (d+1) j cB) lf [[0,0]] [.int v] (f v)) (H2:∀u∈rZ,∀v∈rZ,TD (PV W X hX (d+1) j cB) lf [[0,0],[0,1]] [.int u, .int v] (g u v)) {c:Int} (hc:c=um f 16 rZ.tail) (hm:c∈rZ):WC (PV W X hX (d+3) j cB) 68 [jB pl dc ac a b, .int 2, .int 5, .fn lf] [] λ v m=>v= .bG [[0,0],[0,1]] [.int c, .int (um (g c) 16 rZ.tail)]/\m=[]:=by
 have b1:=Ev (d:=d) (j:=j) (cB:=cB) (W:=W) (X:=X) (hX:=hX) (lf:=lf) (k:=0) (s:=0) (f:=f) (v0:=16) (r:=rZ.tail) (ks:=[]) (us:=[]) (.inl ⟨rfl,rfl⟩) H
 rw[← hc] at b1
 exact KS (ks:=[[0,0],[0,1]]) hd Yi (λ aa=>rfl) rfl λ K hK=>⟨3,mw (nR (p8 (d:=d+1) (eI hd) (ks:=[]) (us:=[]) (.inl ⟨rfl,rfl⟩) (.inl ⟨rfl,rfl⟩) b1 _ (jv (mw (nR (p8 (d:=d+1) (eI hd) (ks:=[[0,0]]) (us:=[.int c]) (.inr ⟨rfl,rfl,rfl,c,rfl⟩) (.inl ⟨rfl,rfl⟩) (Ev (d:=d) (f:=g c) (v0:=16) (r:=rZ.tail) (.inr ⟨rfl,rfl,rfl,c,rfl⟩) (H2 c hm)) _ (jv (sI (hK _ _)))))))))⟩
theorem Pi{b:aC}{x y:Int}{r:ae Int}:aY b x y∈y::x::r:=by
 cases b
 ·exact .head _
 ·exact .tail _ (.head _)
theorem zW(f:Int->Int):∀(r:ae Int) (b:Int),um f b r∈b::r
 |[],b=> .head _
 |v::r,b=>(bQ.mp (zW f r (aY (decide (f v < f b)) v b))).elim (λ e=>(ah (·∈b::v::r) e).mpr Pi) λ h=> .tail _ (.tail _ h)
end
section
variable{prog:aK}{w:bw}{W:WK prog w}{X:BM->Prop}{hX:∀G G',dG G G'->X G->X G'}{d:Nat}{cB:x4}{pl dc ac:ae Int}{a b:Int}
theorem g6.up{P Q:cC}(x:P.Le Q){IV sc:AV}{ks:ae (ae Int)}{us:ae AV}{sz:Int}(h:g6 P IV sc ks us sz):g6 Q IV sc ks us sz:=by
 obtain⟨hi,v,xP,qn,r0,r1,q1,l1,q2,l2,z1,z2⟩:=h
 exact⟨hi,v,xP,qn,r0,r1,q1,l1,q2,l2,z1.up x,z2.up x⟩
def YN(prog:aK)(w:bw):aB:=(BV (P0 prog w)).bA
theorem Hb(P:cC):(BV P).bA=YN prog w:=by kernel_rfl
theorem Qf{j:aC}:(BV (PV W X hX (d+1) j cB)).ch=true:=by kernel_rfl
def XL(prog:aK)(w:bw)(X:BM->Prop)(lf:au)(iv sc:AV):BM->Prop:=λ G=>X G/\ui (YN prog w) lf iv (.int 2) sc G
theorem yC{lf:au}{iv sc:AV}(hX:∀G G',dG G G'->X G->X G'):∀G G',dG G G'->XL prog w X lf iv sc G->XL prog w X lf iv sc G':=λ G G' g h=>⟨hX G G' g h.1,ui.up G G' g h.2⟩
theorem GA(f:Nat->Nat):∀l:ae (Int×ae Int),ew f (l.map qZ)=l.map qZ
 |[]=>rfl
 |p::r=>by show AV.tup [.int p.1, .row p.2]::ew f (r.map qZ)=_; rw[GA f r]; rfl
theorem r9(f:Nat->Nat)(l:ae (ae (Int×ae Int))):eA f (la l)=la l:=by
 have h:∀l:ae (ae (Int×ae Int)),ew f (l.map λ b=>AV.lst (b.map qZ))=l.map λ b=>AV.lst (b.map qZ):=by
  intro l
  induction l with
  |nil=>rfl
  |cons b r ih=>show AV.lst (ew f (b.map qZ))::ew f _=_; rw[GA,ih]; rfl
 show AV.lst (ew f _)=_
 rw[h]; rfl
theorem Fa{lf:au}{bl:ae (ae (Int×ae Int))}{ks:ae (ae Int)}{us:ae AV}{sz:Int}(h:g6 (PV W (XL prog w X lf (la bl) (jB pl dc ac a b)) (yC hX) (d+1) true cB) (la bl) (jB pl dc ac a b) ks us sz):
  TD (PV W (XL prog w X lf (la bl) (jB pl dc ac a b)) (yC hX) (d+2) true cB) lf ks us sz:=λ M i hM=>by
 obtain⟨k,xP,qn,r0,r1,_,_,_,_,w1,w2⟩:=h.use hM (λ aa=>rfl) (λ f=>r9 f bl)
 refine WC.lam (P:=PV W (XL prog w X lf (la bl) (jB pl dc ac a b)) (yC hX) (d+1) true cB) (b:=BV _) (λ G hG=>by rw[Hb (prog:=prog) (w:=w)]; exact hG.2.2) Qf ?_
 conv=>whnf
 refine WC.mono w1 λ v m z=>?_
 obtain⟨rfl,rfl⟩:=z
 conv=>whnf
 refine WC.mono w2 λ v m z=>?_
 obtain⟨rfl,rfl⟩:=z
 exact⟨rfl,qn,r1,rfl⟩
theorem Ce{j:aC}{i:Nat}{e:lj}(h:FL[i]?=af e)(h0:e.dm=0){vs:ae AV}{m:ae AO}{K:AV->ae AO->Prop}(hl:vs.length=e.xs.length)(r:(e.b (PV W X hX (d+1) j cB)).run ⟨fill e.ct.aS vs,m⟩ (iH K)):
  pj (PV W X hX (d+2) j cB) e.f vs m K:=by
 have he:=dB h
 obtain⟨dv,h1,h2⟩:=z6 W (X:=X) (hX:=hX) (d:=d+1) (j:=j) (cB:=cB) (cD (FT++FJ) he)
 have hd:=h1 (λ aa=>none) []
 rw[h0] at hd
 have hd:dv=[]:=hd
 subst hd
 refine pj.fn (P:=PV W X hX (d+1) j cB) h2 (da:=[]) (λ aa aa=>bJ.nil) (aZ.mp (Tw W) e he) (by simpa using hl) ?_
 rw[bS]
 exact r
theorem U9{lf:au}{iv sc:AV}:(PV W (XL prog w X lf iv sc) (yC hX) 23 true bR).Le ((PV W X hX 24 true bR).lam (BV (PV W X hX 24 true bR)).bA lf iv (.int 2) sc):=
 ⟨rfl,rfl,by show 23<=24; decide, .inr rfl,λ G h=>⟨h.1.1,h.1.2,by have h2:=h.2; rw[Hb (prog:=prog) (w:=w)] at h2; exact h2⟩⟩
theorem PGU{n:Nat}(h:20<=n):(PG W X hX).Le (PV W X hX n true cB):=⟨rfl,rfl,h, .inl rfl,λ aa h=>h⟩
theorem Jq{fa wd iv:Int}{two:aC}{rv gv:AV}{R:ae (ae (ae (ae Int)))}{rows:ae (ae Int)}{bl:ae (ae (Int×ae Int))}(hG:ng R gv)(h:J8 (PG W X hX) (jy fa two wd) pl iv rv gv rows bl){ks:ae (ae Int)}{us:ae AV}(hi:tu us)
  (H:∀lf,WC (PV W (XL prog w X lf (la bl) (jB pl dc ac a b)) (yC hX) 23 true bR) 68 [jB pl dc ac a b, .int 2, .int 5, .fn lf] [] λ v m=>v= .bG ks us/\m=[]):
  pj (PV W X hX 25 true bR) 682 [jy fa two wd,gv,jB pl dc ac a b, .int iv] [.tab] λ v m=>v= .bG ks us/\m=[.tab]:=by
 refine Ce (d:=23) (i:=0) (e:=fe 682 gJ ["frame","grid","scan","interval"] l_) rfl rfl rfl ?_
 obtain⟨ps,rfl,P6⟩:=id hG
 conv=>whnf
 refine WC.mono (WC.anyM ((h.own dc ac a b).up (PGU (by decide))) (λ f=>?_) (λ f=>r9 f bl) [.tab]) λ v m z=>?_
 ·show[eA f (jy fa two wd),AV.inst 812 [28,29] [.int 4, .lst (ew f ps)],eA f (jB pl dc ac a b), .int iv]=_
  rw[P6.eW]
  cases two<;>rfl
 obtain⟨rfl,rfl⟩:=z
 conv=>whnf
 refine⟨jB pl dc ac a b, .int 2,la bl,ks,us,⟨⟨rfl,rfl,rfl⟩,⟨(λ e=>nomatch e),(λ e=>nomatch e),(λ e=>nomatch e)⟩,⟨λ f=>r9 f bl,λ aa=>rfl,λ aa=>rfl⟩,hi,rfl,λ lf=>(H lf).up U9⟩,?_⟩
 exact⟨rfl,rfl⟩
end
def WJ:lj:=fe 897 cN ["scan","intervals"] ib
def WI:lj:=fe 902 dL ["script"] wh
structure LK{prog:aK}{w:bw}(W:WK prog w):Prop where
 w1:Cd W.K WJ=true
 w2:(fdOf W.K 897).body=fZ (ib (P0 prog w)).bA
 l1:Cd W.K WI=true
 l2:(fdOf W.K 902).body=fZ (wh (P0 prog w)).bA
section
variable{prog:aK}{w:bw}{W:WK prog w}{X:BM->Prop}{hX:∀G G',dG G G'->X G->X G'}{d:Nat}{j:aC}{cB:x4}
theorem adO:RS ["scan","intervals"]:=λ fd vs=>by kernel_rfl
theorem acL:RS ["script"]:=λ fd vs=>by kernel_rfl
theorem aak(P Q:cC):(ib P).bA=(ib Q).bA:=by kernel_rfl
theorem YM(P Q:cC):(wh P).bA=(wh Q).bA:=by kernel_rfl
theorem aaj:(ib (PV W X hX (d+1) true cB)).ch=true:=by kernel_rfl
theorem YL:(wh (PV W X hX (d+1) true cB)).ch=true:=by kernel_rfl
theorem xF(L:LK W){vs:ae AV}{m:ae AO}{K:AV->ae AO->Prop}(hl:vs.length=2)(r:(ib (PV W X hX (d+1) true cB)).run ⟨fill cN.aS vs,m⟩ (iH K)):
  WC (PV W X hX (d+2) true cB) 897 vs m K:=by
 have h:=Et W (X:=X) (hX:=hX) (d:=d+1) (j:=true) (cB:=cB) (e:=WJ) adO rfl L.w1 (L.w2.trans (ah fZ (aak _ _)))
 refine WC.fn (P:=PV W X hX (d+1) true cB) h (da:=[]) (λ aa aa=>bJ.nil) aaj rfl (show vs.length+0=2 from hl) ?_
 rw[bS]
 exact r
theorem Qi(L:LK W){vs:ae AV}{m:ae AO}{K:AV->ae AO->Prop}(hl:vs.length=1)(r:(wh (PV W X hX (d+1) true cB)).run ⟨fill dL.aS vs,m⟩ (iH K)):
  pj (PV W X hX (d+2) true cB) 902 vs m K:=by
 have h:=Et W (X:=X) (hX:=hX) (d:=d+1) (j:=true) (cB:=cB) (e:=WI) acL rfl L.l1 (L.l2.trans (ah fZ (YM _ _)))
 refine pj.fn (P:=PV W X hX (d+1) true cB) h (da:=[]) (λ aa aa=>bJ.nil) YL (show vs.length+0=1 from hl) ?_
 rw[bS]
 exact r
end
def Xx(k:Int):TV:= .tp (.ex (.int k)) adi
noncomputable def tlT:ae TV->TV
 |[]=> .ln
 |t::r=> .lc t (tlT r)
def ivT(l:ae (ae Int)):TV:=tlT (l.map λ b=>tlT (b.map Xx))
theorem Se:∀{b:ae (Int×ae Int)},(∀p∈b,v_ p.2)->GV (tlT ((b.map (·.1)).map Xx)) (.lst (b.map qZ))
 |[],_=>rfl
 |p::r,h=>⟨_,_,rfl,⟨_,_,rfl,rfl,_,rfl,h p aR⟩,Se λ q hq=>h q (aP _ hq)⟩
theorem YF:∀{l:ae (ae (Int×ae Int))},(∀b∈l,∀p∈b,v_ p.2)->GV (ivT (l.map (·.map (·.1)))) (la l)
 |[],_=>rfl
 |b::r,h=>⟨_,_,rfl,Se (h b aR),YF λ c hc=>h c (aP _ hc)⟩
section
variable{prog:aK}{w:bw}{W:WK prog w}{X:BM->Prop}{hX:∀G G',dG G G'->X G->X G'}{pl ac:ae Int}
def szB(W:WK prog w)(X:BM->Prop)(hX:∀G G',dG G G'->X G->X G')(e:Kd)(sh ks:ae (ae Int)):aq e6:=Tc (lV W X hX true 9) (.ex e.sc) (ivT sh) ks (ks.map λ aa=> .rg e.lo e.hi)
def acJ(W:WK prog w)(X:BM->Prop)(hX:∀G G',dG G G'->X G->X G')(e:Kd)(sh:ae (ae Int)):aC:=(HC e.ks).all λ ks=>(szB W X hX e sh ks).isSome
abbrev WS(W:WK prog w)(X:BM->Prop)(hX:∀G G',dG G G'->X G->X G')(e:Kd):aC:=(shB e.two).all (acJ W X hX e)
theorem kA:((E9 pl ac).take 1).all (WS W X hX)=true:=by kernel_rfl
theorem kB:(((E9 pl ac).drop 1).take 1).all (WS W X hX)=true:=by kernel_rfl
theorem kC:(((E9 pl ac).drop 2).take 4).all (WS W X hX)=true:=by kernel_rfl
theorem kD:((E9 pl ac).drop 6).all (WS W X hX)=true:=by kernel_rfl
theorem ZU:(E9 pl ac).all (WS W X hX)=true:=by
 show((E9 pl ac).take 1++(((E9 pl ac).drop 1).take 1++(((E9 pl ac).drop 2).take 4++(E9 pl ac).drop 6))).all (WS W X hX)=true
 rw[j5,j5,j5,kA,kB,kC,kD]
 rfl
theorem Rf{e:Kd}(he:e∈E9 pl ac){sh ks:ae (ae Int)}(hs:sh∈shB e.two)(hk:ks∈HC e.ks):szB W X hX e sh ks=af ():=
 (jx.mp (aZ.mp (aZ.mp (aZ.mp (ZU (W:=W) (X:=X) (hX:=hX)) e he) sh hs) ks hk)).elim λ aa z=>z
end
noncomputable abbrev JQ:Type:=(Int×aC×Int)×ae Int×Int
def sO:ae JQ:=i4.flatMap λ c=>(placesOf c.2.1).flatMap λ pl=>[(c,pl,0),(c,pl,1),(c,pl,2)]
theorem L4{c:Int×aC×Int}{pl:ae Int}{iv:Int}(hc:c∈i4)(hp:pl∈placesOf c.2.1)(hi:iv=0\/iv=1\/iv=2):(c,pl,iv)∈sO:=
 vh.mpr ⟨c,hc,vh.mpr ⟨pl,hp,hi.elim (λ e=>e▸ .head _) λ h=> .tail _ (h.elim (λ e=>e▸ .head _) λ e=>e▸ .tail _ (.head _))⟩⟩
noncomputable def par(m s:Nat):Nat:=(m+s - 1) / s
def unitsOf(c:Int×aC×Int)(pl:ae Int):ae (ae (Int×Int×Nat)):=match pl with
 |[p]=>(eB (par (aY (p==0) c.2.2.toNat (par c.2.2.toNat c.1.toNat)) 2)).map λ i=>[(0,p,i)]
 |_=>(eB (par c.2.2.toNat (2 * c.1.toNat))).map λ u=>(eB c.1.toNat).map (λ j=>(0,0,c.1.toNat * u+j))++[(1,1,u)]
def xE(k:JQ):ae AV:=(unitsOf k.1 k.2.1).map λ u=> .lst (u.map λ b=> .tup [.int b.1, .int b.2.1, .int (b.2.2:Nat), .int 0])
noncomputable def chunk{α:Type}(s:Nat):Nat->ae (ae α)->ae (ae α)
 |0,_=>[]
 |f+1,l=>aY l.isEmpty [] ((l.take s).flatten::chunk s f (l.drop s))
def blI(k:JQ):ae (ae (Int×Nat)):=(chunk (aY (k.2.2==0) (unitsOf k.1 k.2.1).length k.2.2.toNat) (unitsOf k.1 k.2.1).length (unitsOf k.1 k.2.1)).map (·.map λ b=>(b.1,aY (b.2.1==0) b.2.2 ((bi k.1).1+b.2.2)))
def rwN(k:JQ):Nat:=(bi k.1).1+(bi k.1).2
def Q6(ρ:Nat->ae Int)(k:JQ):ae (ae Int):=(eB (rwN k)).map ρ
def IA(ρ:Nat->ae Int)(k:JQ):ae (ae (Int×ae Int)):=(blI k).map (·.map λ p=>(p.1,ρ p.2))
def Od(k:JQ):AV:=jy k.1.1 k.1.2.1 k.1.2.2
def grK(ρ:Nat->ae Int)(k:JQ):ae (ae (ae (ae Int))):=oz k.1.2.1 (bi k.1).1 (Q6 ρ k)
def rvK(ρ:Nat->ae Int)(k:JQ):AV:=oB k.1.2.1 (bi k.1).1 (bi k.1).2 (Q6 ρ k)
noncomputable def ueL(P:cC)(a b c:AV):Nat->ae AV->ae (aq (ae (TV×AS)))
 |_,[]=>[]
 |i,_::r=>(Wm P).ab ⟨[.ex a, .ex b, .ex c, .ex (.int i)],[]⟩::ueL P a b c (i+1) r
noncomputable def ueR(a b c:AV):Nat->ae AV->ae (aq (ae (TV×AS)))
 |_,[]=>[]
 |i,v::r=>af [(.ex v,⟨[.ex a, .ex b, .ex c, .ex (.int i)],[]⟩)]::ueR a b c (i+1) r
theorem RZ{P:cC}{a b c:AV}:∀{l:ae AV} {i:Nat},ueL P a b c i l=ueR a b c i l->UE P a b c i l
 |[],_,_=>trivial
 |_::_,_,h=>⟨Bt h,RZ (Bu h)⟩
def okK(k:JQ):aC:=eK 0 (xE k).length&&(Builtin.Range.small 0 ((xE k).length:Nat) 1&&(decide ((blI k).map (·.map (·.1))∈oC k.2.1)&&(blI k).all (·.all λ p=>eK p.2 (rwN k))))
theorem QD:sO.all okK=true:=by decide+kernel
theorem CW{α:Type}(d:α):∀l:ae α,(eB l.length).map (λ i=>l.getD i d)=l:=λ l=>List.ext_getElem (by simp) λ i h1 h2=>by simp [h2]
section
variable{prog:aK}{w:bw}{W:WK prog w}{X:BM->Prop}{hX:∀G G',dG G G'->X G->X G'}{dc ac:ae Int}{s e:Int}{ρ:Nat->ae Int}
theorem u_0:(sO.map λ k=>(DQ (PN W X hX false 5)).ab ⟨[.ex (Od k), .ex (jB k.2.1 dc ac s e), .ex .undef, .ex .undef],[]⟩)=sO.map λ k=>af [(.d8,⟨[.ex (Od k), .ex (jB k.2.1 dc ac s e), .ex (.int (xE k).length), .ex .undef],[]⟩)]:=by kernel_rfl
theorem u_1:(sO.map λ k=>(DP (PN W X hX false 5)).ab ⟨[.ex (Od k), .ex (jB k.2.1 dc ac s e), .ex (.int (xE k).length), .ex .undef],[]⟩)=sO.map λ k=>af [(.ex (.j_ 0 ((xE k).length:Nat) 1),⟨[.ex (Od k), .ex (jB k.2.1 dc ac s e), .ex (.int (xE k).length), .ex .undef],[]⟩)]:=by kernel_rfl
theorem u_2:(sO.map λ k=>ueL (PN W X hX false 5) (Od k) (jB k.2.1 dc ac s e) (.int (xE k).length) 0 (xE k))=sO.map λ k=>ueR (Od k) (jB k.2.1 dc ac s e) (.int (xE k).length) 0 (xE k):=by kernel_rfl
theorem u_3:(sO.map λ k=>ivB (PN W X hX false 6) (Od k) (jB k.2.1 dc ac s e) (grK ρ k) k.2.2 (xE k))=sO.map λ k=>af [(.ex (la (IA ρ k)),[])]:=by kernel_rfl
theorem u_4:(sO.map λ k=>lV W X hX false 5 892 [.ex (Od k), .ex (jB k.2.1 dc ac s e), .ex (rvK ρ k), .ex (.int k.2.2)] [])=sO.map λ k=>af [(.ex (la (IA ρ k)),[])]:=by kernel_rfl
theorem acE(U:UK W){k:JQ}(hk:k∈sO){gv:AV}(hG:ng (grK ρ k) gv):J8 (PG W X hX) (Od k) k.2.1 k.2.2 (rvK ρ k) gv (Q6 ρ k) (IA ρ k):=
 have c1:=aF (aZ.mp QD k hk); have c2:=aF c1.2; have c3:=aF c2.2
 YG U hG (lU c1.1) c2.1 (λ dc ac s e=>⟨r_ u_0 k hk,r_ u_1 k hk,RZ (r_ u_2 k hk)⟩) (λ dc ac s e=>r_ u_3 k hk) (λ dc ac s e=>r_ u_4 k hk)
  ((ah (·∈oC k.2.1) (show(IA ρ k).map (·.map (·.1))=(blI k).map (·.map (·.1)) by unfold IA; rw[t9]; exact sr λ b aa=>t9)).mpr (bg c3.1))
  λ b hb p hp=>(dN.mp hb).elim λ b' hb'=>(dN.mp (show p∈b'.map λ p=>(p.1,ρ p.2) from hb'.2.symm▸hp)).elim λ q hq=>hq.2▸hF (q_.mpr (lU (aZ.mp (aZ.mp c3.2 b' hb'.1) q hq.1)))
theorem acG(U:UK W){k:JQ}(hk:k∈sO){gv:AV}{r:ae (ae Int)}(e:Q6 ρ k=r)(hG:ng (oz k.1.2.1 (bi k.1).1 r) gv):J8 (PG W X hX) (Od k) k.2.1 k.2.2 (oB k.1.2.1 (bi k.1).1 (bi k.1).2 r) gv r (IA ρ k):=by
 subst e
 exact acE U hk hG
theorem U0(U:UK W){c:Int×aC×Int}(hc:c∈i4){cs:ae (aC×ae Int)}(hl:cs.length=(bi c).1+(bi c).2)(h:∀c∈cs,nL c){pl:ae Int}(hp:pl∈placesOf c.2.1){iv:Int}(hi:iv=0\/iv=1\/iv=2):
  ∃bl,J8 (PG W X hX) (jy c.1 c.2.1 c.2.2) pl iv (oB c.2.1 (bi c).1 (bi c).2 (cs.map (·.2))) (sJ c.2.1 (bi c).1 cs) (cs.map (·.2)) bl:=
 ⟨_,acG U (L4 hc hp hi) (ρ:=λ i=>(cs.map ph).getD i []) ((ah (λ n=>(eB n).map λ i=>(cs.map ph).getD i []) (hl.symm.trans (bL _).symm)).trans (CW [] (cs.map ph))) (Aj h)⟩
end
section
variable{prog:aK}{w:bw}(W:WK prog w)
def PS:cC:=(PN W (λ aa=>True) (λ aa aa aa h=>h) true 9).dn
def Iu(IV sc:AV)(ks:ae (ae Int))(us:ae Int):Prop:=∃sz,g6 (PS W) IV sc ks (bX us) sz
def V_(IV sc:AV)(ks:ae (ae Int))(us:ae Int):Int:=Classical.epsilon λ sz=>g6 (PS W) IV sc ks (bX us) sz
theorem AW{IV sc:AV}{ks:ae (ae Int)}{us:ae Int}(h:Iu W IV sc ks us):g6 (PS W) IV sc ks (bX us) (V_ W IV sc ks us):=Classical.epsilon_spec h
def R61(c:ul)(ks:ae (ae Int)):Prop:=∀{prog:aK} {w:bw} (W:WK prog w) X hX,lV W X hX false 1 61 [.ex c.v] []=af [(.ex (.lst (ks.map tT)),[])]
structure Ka(bl:ae (ae (Int×ae Int)))(c:ul)(k s:Int)(vals:ae Int):Prop where
 hk:(k=0/\vals=rZ)\/(k=1/\vals=OP)
 r:R61 c [[k,s]]
 z:∀v∈vals,Iu W (la bl) c.v [[k,s]] [v]
structure RX(bl:ae (ae (Int×ae Int)))(c:ul):Prop where
 r:R61 c [[0,0],[0,1]]
 z:∀v∈rZ,Iu W (la bl) c.v [[0,0]] [v]
 y:∀u∈rZ,∀v∈rZ,Iu W (la bl) c.v [[0,0],[0,1]] [u,v]
end
theorem Sa:∀v∈OP,1<=v/\v<=3:=by decide
theorem wv:∀v∈rZ,0<=v/\v<=85:=by decide
section
variable{prog:aK}{w:bw}{W:WK prog w}{bl:ae (ae (Int×ae Int))}{pl ac:ae Int}{e:Kd}{c:ul}{vals:ae Int}
theorem sn(he:e∈E9 pl ac)(hc:e.sc=c.v):R61 c e.ks:=λ W X hX=>hc▸r_ r61 e he
theorem oW{l u v:Int}(h:l<=v/\v<=u):GV (.rg l u) (.int v):=⟨v,rfl,h⟩
theorem uM(he:e∈E9 pl ac)(hc:e.sc=c.v){ks:ae (ae Int)}(hk:ks∈HC e.ks)(hs:bl.map (·.map (·.1))∈shB e.two)(hr:∀b∈bl,∀p∈b,v_ p.2){us:ae Int}(hu:dH (ks.map λ aa=> .rg e.lo e.hi) (bX us)):Iu W (la bl) c.v ks us:=
 hc▸Rg (W:=W) (X:=λ aa=>True) (hX:=λ aa aa aa h=>h) (Rf he hs hk) rfl (YF hr) hu
inductive Gi(W:WK prog w)(bl:ae (ae (Int×ae Int)))(c:ul):ae (ae Int)->ae Int->Prop
 |one {k s:Int} {vals:ae Int} (h:Ka W bl c k s vals) {v0:Int} {r:ae Int} (hv:vals=v0::r):Gi W bl c [[k,s]] [um (λ v=>V_ W (la bl) c.v [[k,s]] [v]) v0 r]
 |two (h:RX W bl c) {x:Int} (hx:x=um (λ v=>V_ W (la bl) c.v [[0,0]] [v]) 16 rZ.tail):Gi W bl c [[0,0],[0,1]] [x,um (λ v=>V_ W (la bl) c.v [[0,0],[0,1]] [x,v]) 16 rZ.tail]
theorem Gh{Y:BM->Prop}{hY:∀G G',dG G G'->Y G->Y G'}{n:Nat}(h:18<=n){cB:x4}:(PS W).Le (PV W Y hY n true cB):=⟨rfl,rfl,h, .inr rfl,λ G g=>⟨g.1,trivial⟩⟩
theorem BI:∀l:ae Int,tu (bX l)
 |[]=>trivial
 |x::r=>⟨⟨x,rfl⟩,BI r⟩
theorem KT{X:BM->Prop}{hX:∀G G',dG G G'->X G->X G'}{ks:ae (ae Int)}{cs:ae Int}(h:Gi W bl c ks cs)(lf:au):
  WC (PV W (XL prog w X lf (la bl) c.v) (yC hX) 23 true bR) 68 [c.v, .int 2, .int 5, .fn lf] [] λ v m=>v= .bG ks (bX cs)/\m=[]:=by
 cases h with
 |one h hv=>exact Pb (d:=20) (by decide) h.hk hv (h.r _ _ _) λ v hm=>Fa (hX:=hX) (d:=19) ((AW W (h.z v hm)).up (Gh (by decide)))
 |two h hx=>exact Pc (d:=20) (by decide) (g:=λ x v=>V_ W (la bl) c.v [[0,0],[0,1]] [x,v]) (h.r _ _ _) (λ v hm=>Fa (hX:=hX) (d:=19) ((AW W (h.z v hm)).up (Gh (by decide)))) (λ u hu v hm=>Fa (hX:=hX) (d:=19) ((AW W (h.y u hu v hm)).up (Gh (by decide)))) hx (hx▸zW _ _ _)
end
noncomputable def mg(f:ae (ae Int)×ae Int):ae (ae Int)->ae Int->ae (ae Int)×ae Int
 |k::ks,c::cs=>mg (aY (pH f.1 k) f (f.1++[k],f.2++[c])) ks cs
 |_,_=>f
theorem So{b x:aC}(h:aY b true x=false):b=false/\x=false:=by
 cases b
 ·exact⟨rfl,h⟩
 ·exact ay h
theorem zm:∀{ks:ae (ae Int)} {k:ae Int},pH ks k=false->rq ks k=ks++[k]
 |[],_=>λ aa=>rfl
 |x::r,k=>λ h=>have h:=So h; (mP h.1).trans (ah (x::·) (zm h.2))
theorem zn:∀{ks:ae (ae Int)} {vs:ae AV} {k:ae Int} {u:AV},pH ks k=false->ks.length=vs.length->w9 ks vs k u=vs++[u]
 |[],[],_,_=>λ aa aa=>rfl
 |_::_,[],_,_=>λ aa l=>bt l (cy _)
 |[],_::_,_,_=>λ aa l=>bt l.symm (cy _)
 |x::r,v::vs,k,u=>λ h l=>have h:=So h; (lx h.1).trans (ah (v::·) (zn h.2 (eL l)))
theorem y6:∀l:ae Int,(bX l).length=l.length
 |[]=>rfl
 |_::r=>ah (·+1) (y6 r)
theorem y5:∀(l:ae Int) (c:Int),bX (l++[c])=bX l++[.int c]
 |[],_=>rfl
 |x::r,c=>ah (AV.int x::·) (y5 r c)
inductive BJ:ae (ae Int)->ae Int->Prop
 |one (k s c:Int):BJ [[k,s]] [c]
 |two (x y:Int):BJ [[0,0],[0,1]] [x,y]
noncomputable abbrev Gd:Type:=ae (ae Int)×ae Int
def Y0(f:Gd)(k:ae Int)(c:Int):Gd:=aY (pH f.1 k) f (f.1++[k],f.2++[c])
structure JP(f:Gd)(n:Nat):Prop where
 e:f.1.length=f.2.length
 l:f.1.length<=n
theorem JP.o{f:Gd}{n:Nat}{k:ae Int}{c:Int}(h:JP f n):JP (Y0 f k c) (n+1):=by
 show JP (aY (pH f.1 k) f (f.1++[k],f.2++[c])) (n+1)
 cases pH f.1 k with
 |true=>exact⟨h.e,uT h.l⟩
 |false=>exact⟨bj.trans ((ah (·+1) h.e).trans (bj (as:=f.2) (bs:=[c])).symm),aG (aV bj) (eI h.l)⟩
theorem JP.m{f:Gd}{n:Nat}{ks:ae (ae Int)}{cs:ae Int}(h:JP f n)(k:BJ ks cs):JP (mg f ks cs) (n+2):=by
 cases k with
 |one k s c=>exact⟨h.o.e,uT h.o.l⟩
 |two x y=>exact h.o.o
def mgK(f:Gd)(k:ae Int)(o:aq AV)(C:ae (ae Int)->ae AV->Prop):Prop:=aY (true !=pH f.1 k) (Jb o λ v=>cK (bB f.1.length 1000) (C (rq f.1 k) (w9 f.1 (bX f.2) k v))) (C f.1 (bX f.2))
theorem Fm{f:Gd}{k:ae Int}{o:aq AV}{c:Int}{C:ae (ae Int)->ae AV->Prop}{n:Nat}(ho:o=af (.int c))(hf:JP f n)(hn:n<=1000)(h:C (Y0 f k c).1 (bX (Y0 f k c).2)):mgK f k o C:=by
 unfold mgK
 unfold Y0 at h
 rw[ho]
 cases e:pH f.1 k with
 |true=>rw[e] at h; exact h
 |false=>
  rw[e] at h
  exact cK.i (c6 (aG hf.l hn)) (zm e▸zn (u:= .int c) e (hf.e.trans (y6 _).symm)▸y5 f.2 c▸h)
theorem r5{set:AV->St->(St->Prop)->Prop}{b:Body}{n k:Nat}{v:ae Int}{r:ae (ae Int)}{σ:St}{K:Fl->St->Prop}(h:set (.tup (bX v)) σ λ aI=>b aI λ f aW=>sj f aW (λ dC=>js set b n (.keys (k+1) r) dC K) K):js set b (n+1) (.keys k (v::r)) σ K:=h
theorem y0{set:AV->St->(St->Prop)->Prop}{b:Body}{n k:Nat}{σ:St}{K:Fl->St->Prop}(h:K .d8 σ):js set b (n+1) (.keys k []) σ K:=h
theorem Qn(k s:Int)(c:AV):wR [[k,s]] [c] [k,s]=af c:=ah (aY · (af c) none) ((Pw _ _).trans (cz rfl):sw [k,s] [k,s]=true)
theorem Ha{set:AV->St->(St->Prop)->Prop}{bd:Body}{ks:ae (ae Int)}{cs:ae Int}{S:AV->ae (ae Int)->ae AV->St}(hk:BJ ks cs)(ht:∀x a b f (K:Fl->St->Prop),mgK f [a,b] (wR ks (bX cs) [a,b]) (λ u v=>K .d8 (S (tT [a,b]) u v))->set (tT [a,b]) (S x f.1 (bX f.2)) λ σ=>bd σ K)
  {f:Gd} {n:Nat} (hf:JP f n) (hn:n+2<=1000) {o:AV} {K:Fl->St->Prop} (hK:∀o,K .d8 (S o (mg f ks cs).1 (bX (mg f ks cs).2))):js set bd 3 (.keys 0 ks) (S o f.1 (bX f.2)) K:=by
 have h0:=aG (bq n 2) hn
 cases hk with
 |one k s c=>exact r5 (ht o k s f _ (Fm (Qn k s (.int c)) hf h0 (y0 (hK _))))
 |two x y=>exact r5 (ht o 0 0 f _ (Fm (c:=x) rfl hf h0 (r5 (ht _ 0 1 (Y0 f [0,0] x) _ (Fm (c:=y) rfl hf.o (Nat.le_of_succ_le hn) (y0 (hK _)))))))
structure Bj where
 p:ul
 ks:ae (ae Int)
 cs:ae Int
noncomputable def Bj.v(o:Bj):AV:=jB o.p.1 o.p.2.1 o.p.2.2.1 o.p.2.2.2.1 o.p.2.2.2.2
def Hl(f:Gd)(l:ae Bj):Gd:=l.foldl (λ f o=>mg f o.ks o.cs) f
theorem KA{α:Type}(pre:ae α)(p:α)(r:ae α):(pre++p::r)[pre.length]?=af p:=(eR (cF _)).trans (by rw[Nat.sub_self]; rfl)
theorem Lm{set:AV->St->(St->Prop)->Prop}{b:Body}{n p k:Nat}{v:AV}{xs:ae AV}{σ:St}{K:Fl->St->Prop}(hm:bM σ.mem p=af (.lst xs))(e:nS xs k=af v)(h:set v σ λ aI=>b aI λ f aW=>sj f aW (λ dC=>js set b n (.own p (k+1)) dC K) K):js set b (n+1) (.own p k) σ K:=by
 refine dI hm ?_
 dsimp only
 rw[e]
 exact h
theorem IP{set:AV->St->(St->Prop)->Prop}{b:Body}{n p k:Nat}{xs:ae AV}{σ:St}{K:Fl->St->Prop}(hm:bM σ.mem p=af (.lst xs))(e:nS xs k=none)(h:K .d8 σ):js set b (n+1) (.own p k) σ K:=by
 refine dI hm ?_
 dsimp only
 rw[e]
 exact h
theorem xg{set:AV->St->(St->Prop)->Prop}{bd:Body}{p:Nat}{α:Type}{S:α->Gd->St}{A:Bj->Prop}{xs:ae Bj}(hm:∀a f,bM (S a f).mem p=af (.lst (xs.map (·.v))))(hA:∀o,A o->BJ o.ks o.cs)
  (ht:∀o a f n (K:Fl->St->Prop),A o->JP f n->n+2<=1000->(∀a,K .d8 (S a (mg f o.ks o.cs)))->set o.v (S a f) λ σ=>bd σ K) {K:Fl->St->Prop}:∀(l pre:ae Bj) (i:Nat) (a:α) (f:Gd) (n:Nat),xs=pre++l->i=pre.length->JP f n->n+2 * l.length+2<=1000->(∀o∈l,A o)->
  (∀a,K .d8 (S a (Hl f l)))->js set bd (l.length+1) (.own p i) (S a f) K
 |[],pre,i,a,f,n,hx,hi,_,_,_,hK=>IP (hm a f) ((qE _ _).trans (ff (aV ((bL _).trans ((ah f4 (hx.trans (bS pre))).trans hi.symm))))) (hK a)
 |o::r,pre,i,a,f,n,hx,hi,hf,hn,H,hK=>Lm (v:=o.v) (hm a f) ((qE _ _).trans (eT.trans (ah _ (hx▸hi▸KA pre o r))))
   (ht o a f n _ (H o aR) hf (aG (bq (n+2) (2 * r.length+2)) (aG (aV (by rw[cV n 2,← Nat.add_assoc]; rfl)) hn)) λ a=>xg hm hA ht r (pre++[o]) (i+1) a (mg f o.ks o.cs) (n+2) (hx.trans (List.append_cons pre o r)) (hi▸(bj (as:=pre) (bs:=[o])).symm)
    (hf.m (hA o (H o aR))) (aG (aV (ah (·+2) (cV n 2 _))) hn) (λ o h=>H o (aP _ h)) hK)
theorem pj.known{P:cC}{f:au}{dx:ae AV}{mem C6:ae AO}{ti:AV}{K:AV->ae AO->Prop}(h:pj P f dx mem λ v m=>v=ti/\m=C6)(k:K ti C6):pj P f dx mem K:=pj.mono h λ aa aa q=>q.1.symm▸q.2.symm▸k
theorem pj.adC{P:cC}{f:au}{dx:ae AV}{ti:AV}(h:pj P f dx [.tab] λ v m=>v=ti/\m=[.tab])(ca:∀f,ew f dx=dx)(cv:∀f,eA f ti=ti)(M:ae AO):pj P f dx (.tab::M) λ v m=>v=ti/\m= .tab::M:=
 ca (eW [0] (M.length+1))▸pj.mono (pj.Cc h [0] (.tab::M) rfl (by decide) rfl λ i j ao hi hj=>match i,hi,hj with
  |0,hi,hj=>am hi▸am hj▸rfl) λ v m z=>z.elim λ v1 z=>z.elim λ m1 z=>⟨z.2.1.trans ((ah (eA _) z.1.1).trans (cv _)),z.2.2.1.trans (z.1.2▸bS _)⟩
theorem r6{fa wd:Int}{two:aC}(f:Nat->Nat):eA f (jy fa two wd)=jy fa two wd:=by cases two<;>rfl
theorem s5(f:Nat->Nat):∀l:ae Int,ew f (bX l)=bX l
 |[]=>rfl
 |x::r=>ah (AV.int x::·) (s5 f r)
theorem M1{f:Nat->Nat}{x y:AV}{l:ae AV}(hx:eA f x=x)(hy:eA f y=y)(hl:ew f l=l):ew f (x::y::l)=x::y::l:=by
 show eA f x::eA f y::ew f l=_
 rw[hx,hy,hl]
noncomputable def gI(ps:ae AV):AV:= .inst 812 [28,29] [.int 4, .lst ps]
theorem Ag{ps:ae AV}{f:Nat->Nat}(h:ew f ps=ps):eA f (gI ps)=gI ps:=ah gI h
section
variable{prog:aK}{w:bw}{W:WK prog w}{X:BM->Prop}{hX:∀G G',dG G G'->X G->X G'}{n:Nat}{fa wd:Int}{two:aC}{ps:ae AV}{iv:Int}
structure GcA(P:cC)(fr g:AV)(iv:Int)(o:Bj):Prop where
 k:BJ o.ks o.cs
 w:pj P 682 [fr,g,o.v, .int iv] [.tab] λ v m=>v= .bG o.ks (bX o.cs)/\m=[.tab]
noncomputable def gcL(fr g:AV)(iv:Int)(a5 a6 a7:AV):ae AV:=[fr,g, .own 1, .int iv, .own 2,a5,a6,a7]
def gcR(P:cC)(loc:ae AV)(m:ae AO)(K:Fl->St->Prop):Prop:=(ZJ (o8 P) (e8 6 p0) (o0 P) p0).run ⟨loc,m⟩ K
theorem UI(EZ:∀f,ew f ps=ps)(l:ae Bj)(hl:l.length < 100)(H:∀o∈l,GcA (PV W X hX (n+1) true bR) (jy fa two wd) (gI ps) iv o):
  pj (PV W X hX (n+2) true bR) 689 [jy fa two wd,gI ps, .own 1, .int iv] [.tab, .lst (l.map (·.v))] λ v m=>v= .own 2/\m=[.tab, .lst (l.map (·.v)), .bG (Hl ([],[]) l).1 (bX (Hl ([],[]) l).2)]:=
 Ce (d:=n) (i:=1) (e:=fe 689 bW ["frame","grid","scans","interval"] l9) rfl rfl rfl (nf (B:=∃N,js (o9 (PV W X hX (n+1) true bR)).set (o4 (PV W X hX (n+1) true bR)).run N (.own 1 0) ⟨gcL (jy fa two wd) (gI ps) iv .undef .undef .undef,[.tab, .lst (l.map (·.v)), .bG [] []]⟩
   (pL (iJ (FC (e8 4 p0) p0) lN:SS (PV W X hX (n+1) true bR) bW) (iH λ v m=>v= .own 2/\m=[.tab, .lst (l.map (·.v)), .bG (Hl ([],[]) l).1 (bX (Hl ([],[]) l).2)]))) (by kernel_rfl)
  ⟨_,xg (p:=1) (S:=λ(a:AV×AV×AV) f=>⟨gcL (jy fa two wd) (gI ps) iv a.1 a.2.1 a.2.2,[.tab, .lst (l.map (·.v)), .bG f.1 (bX f.2)]⟩) (λ aa aa=>rfl) (λ aa h=>h.k) (λ o a f m K hA hf hm hK=>
    nf (B:=pj (PV W X hX (n+1) true bR) 682 [jy fa two wd,gI ps,o.v, .int iv] [.tab, .lst (l.map (·.v)), .bG f.1 (bX f.2)] λ v m=>gcR (PV W X hX (n+1) true bR) (gcL (jy fa two wd) (gI ps) iv o.v v a.2.2) m λ f σ=>sj f σ (λ σ=>K .d8 σ) K) (by kernel_rfl)
     ((hA.w.adC (λ f=>M1 (r6 f) (Ag (EZ f)) rfl) (λ f=>ah (AV.bG o.ks) (s5 f _)) _).known
      ⟨3,Ha (S:=λ x u v=>⟨gcL (jy fa two wd) (gI ps) iv o.v (.bG o.ks (bX o.cs)) x,[.tab, .lst (l.map (·.v)), .bG u v]⟩) hA.k (λ x a b f K h=>nf (by kernel_rfl) h) hf hm λ x=>hK (_,_,x)⟩))
   l [] 0 (.undef, .undef, .undef) ([],[]) 0 rfl rfl ⟨rfl,cF _⟩ (aG (fH (aG (aV (fB _)) (jG 2 (eZ hl))) 2) (by decide)) H λ aa=>⟨rfl,rfl⟩⟩)
end
section
variable{prog:aK}{w:bw}{W:WK prog w}{X:BM->Prop}{hX:∀G G',dG G G'->X G->X G'}{d:Nat}{cB:x4}{bl:ae (ae (Int×ae Int))}{pl dc ac:ae Int}{a b:Int}
noncomputable def ms(l:ae (Int×Int)):ae AV:=l.map λ p=> .tup [.int p.1, .int p.2]
theorem HW(l:ae (Int×Int))(i:Nat):nS (ms l) i=l[i]?.map λ p=> .tup [.int p.1, .int p.2]:=(qE _ _).trans eT
theorem HX(f:Nat)(m:ae AO)(n:Nat):∀l:ae (Int×Int),i5 (lZ f m (n+2)) (ms l)=af (ms l)
 |[]=>rfl
 |p::r=>bZ (rfl:lZ f m (n+2) (.tup [.int p.1, .int p.2])=af (.tup [.int p.1, .int p.2])) (HX f m n r)
theorem GB(f:Nat)(m:ae AO)(n:Nat):∀l:ae (Int×ae Int),i5 (lZ f m (n+2)) (l.map qZ)=af (l.map qZ)
 |[]=>rfl
 |p::r=>bZ rfl (GB f m n r)
theorem G_(f:Nat)(m:ae AO):∀l:ae (ae (Int×ae Int)),i5 (lZ f m 11) (l.map λ b=>AV.lst (b.map qZ))=af (l.map λ b=>AV.lst (b.map qZ))
 |[]=>rfl
 |b::r=>bZ (ah (ob · λ l=>af (AV.lst l)) (GB f m 8 b)) (G_ f m r)
theorem U1(f:Nat)(m:ae AO)(l:ae (ae (Int×ae Int))):lZ f m 12 (la l)=af (la l):=ah (ob · λ l=>af (AV.lst l)) (G_ f m l)
def pV(a:AV):Prop:=a= .undef\/∃x,a= .int x
theorem pV.res{a:AV}(h:pV a)(n:Nat)(m:ae AO):lZ n m 12 a=af a:=by
 rcases h with rfl|⟨x,rfl⟩<;>rfl
noncomputable def m_(pl dc ac:ae Int)(a b:Int)(bl:ae (ae (Int×ae Int)))(k s:Int)(a5 o6 a7 le:AV):ae AV:=[jB pl dc ac a b,la bl, .own 0, .int k, .int s,a5,o6,a7,le]
theorem Hh{n:Nat}{m:ae AO}{k s:Int}{a5 o6 le:AV}(h5:lZ (n+1) m 12 a5=af a5)(h6:pV o6)(hl:pV le):i5 (lZ (n+1) m 12) (m_ pl dc ac a b bl k s a5 o6 .undef le)=af (m_ pl dc ac a b bl k s a5 o6 .undef le):=
 bZ rfl (bZ (U1 _ _ bl) (bZ rfl (bZ rfl (bZ rfl (bZ h5 (bZ (h6.res _ _) (bZ rfl (bZ (hl.res _ _) rfl))))))))
noncomputable def wM(k s:Int)(ks:ae (ae Int))(us:ae AV)(v:Int)(sl:ae Int)(l:ae (Int×Int)):ae AO:=[.bG ks us, .il sl, .lst (ms l), .bG (ks++[[k,s]]) (us++[.int v])]
theorem I7{P:cC}{v:AV}{σ:St}{K:St->Prop}(h:K (σ.set 6 v)):(jA P).set v σ K:=h
def wtE(P:cC)(sc IV:AV)(loc:ae AV)(v:Int)(M:ae AO)(K:Fl->St->Prop):Prop:=WC P 640 [sc, .int 2, .own 3] M λ u m=>WC P 49 [IV,u] m λ u m=>tG "list.append" (.own 2) [.tup [u, .int v]] ⟨loc,m⟩ (λ aa σ=>Lq 3 (G0.getD 2 []) K .d8 σ)/\("list.append"="bytearray.append"->false=true)
theorem aam{k s v z:Int}{ks:ae (ae Int)}{us:ae AV}(sL:Pre k s ks us){sl:ae Int}{l:ae (Int×Int)}(hl:l.length<=1000){le:AV}(hle:pV le)(H:g6 (PV W X hX (d+1) true cB) (la bl) (jB pl dc ac a b) (ks++[[k,s]]) (us++[.int v]) z)(K:Fl->St->Prop)
  (hK:K .d8 ⟨m_ pl dc ac a b bl k s (.own 2) (.int v) .undef le,[.bG ks us, .il sl, .lst (ms (l++[(z,v)]))]⟩):
  (jz (PV W X hX (d+1) true cB)).run ⟨m_ pl dc ac a b bl k s (.own 2) (.int v) .undef le,[.bG ks us, .il sl, .lst (ms l)]⟩ K:=
 have e:(jz (PV W X hX (d+1) true cB)).run ⟨m_ pl dc ac a b bl k s (.own 2) (.int v) .undef le,[.bG ks us, .il sl, .lst (ms l)]⟩ K=wtE (PV W X hX (d+1) true cB) (jB pl dc ac a b) (la bl) (m_ pl dc ac a b bl k s (.own 2) (.int v) (.own 3) le) v (wM k s ks us v sl l) K:=by
  rcases sL with⟨rfl,rfl⟩|⟨rfl,rfl,rfl,c,rfl⟩<;>kernel_rfl
 nf e<|RY.casesOn (motive:=λ aa=>wtE (PV W X hX (d+1) true cB) (jB pl dc ac a b) (la bl) (m_ pl dc ac a b bl k s (.own 2) (.int v) (.own 3) le) v (wM k s ks us v sl l) K) (H.use (M:=wM k s ks us v sl l) (i:=3) rfl (λ aa=>rfl) λ f=>r9 f bl)
  λ aa xP qn r0 r1 aa aa aa aa w1 w2=>w1.known<|w2.known ⟨⟨rfl,cK.i (c6 (aG (aV (bL _)) (aG hl (by decide))))<|
   Af (l:=m_ pl dc ac a b bl k s (.own 2) (.int v) .undef le) (m:=[.bG ks us, .il sl, .lst (ms (l++[(z,v)]))]) rfl (Hh rfl (.inr ⟨v,rfl⟩) hle)
    (bZ (sL.res _ _) (bZ rfl (bZ (ah (ob · λ l=>af (AO.lst l)) ((ah (i5 _) (List.map_append (l₁:=l) (l₂:=[(z,v)])).symm).trans (HX 3 _ 10 (l++[(z,v)])))) rfl))) hK⟩,λ e=>bt e (by decide)⟩
theorem H_{k s:Int}{f:Int->Int}{ks:ae (ae Int)}{us:ae AV}(sL:Pre k s ks us){sl:ae Int}{le:AV}(hle:pV le):∀(vals:ae Int) (l:ae (Int×Int)) (i:Nat) (o6:AV) (K:Fl->St->Prop),pV o6->l.length+vals.length<=1000->
  (∀v∈vals,g6 (PV W X hX (d+1) true cB) (la bl) (jB pl dc ac a b) (ks++[[k,s]]) (us++[.int v]) (f v))->
  (∀o6,pV o6->K .d8 ⟨m_ pl dc ac a b bl k s (.own 2) o6 .undef le,[.bG ks us, .il sl, .lst (ms (l++vals.map λ v=>(f v,v)))]⟩)->
  js (jA (PV W X hX (d+1) true cB)).set (jz (PV W X hX (d+1) true cB)).run (vals.length+1) (.fz i (bX vals)) ⟨m_ pl dc ac a b bl k s (.own 2) o6 .undef le,[.bG ks us, .il sl, .lst (ms l)]⟩ K
 |[],l,i,o6,K,h6,_,_,hK=>sI (bS l▸hK o6 h6)
 |v::r,l,i,o6,K,h6,hn,H,hK=>mw (I7 (aam sL (aG (bq ..) hn) hle (H v aR) _ (jv (H_ sL hle r (l++[(f v,v)]) (i+1) (.int v) K (.inr ⟨v,rfl⟩)
   (bj▸aG (aV (cV _ 1 _)) hn) (λ x hx=>H x (aP _ hx)) λ o6 h6=>(gT ..).symm▸hK o6 h6))))
noncomputable def outs(out:Int×Int->ae AV):ae (Int×Int)->ae AV
 |[]=>[]
 |p::r=>out p++outs out r
theorem Ph{set:AV->St->(St->Prop)->Prop}{b:JO}{n q i:Nat}{vs:ae AV}{v:AV}{σ:St}{K:St->Prop}(hm:bM σ.mem q=af (.lst vs))(e:nS vs i=af v)(h:set v σ λ aI=>b aI λ aW=>lp set b n (.own q (i+1)) aW K):lp set b (n+1) (.own q i) σ K:=by
 refine dI hm ?_
 dsimp only
 rw[e]
 exact h
theorem KU{set:AV->St->(St->Prop)->Prop}{b:JO}{n q i:Nat}{vs:ae AV}{σ:St}{K:St->Prop}(hm:bM σ.mem q=af (.lst vs))(e:nS vs i=none)(h:K σ):lp set b (n+1) (.own q i) σ K:=by
 refine dI hm ?_
 dsimp only
 rw[e]
 exact h
theorem zZ{set:AV->St->(St->Prop)->Prop}{bd:JO}{q:Nat}{L:ae (Int×Int)}{out:Int×Int->ae AV}{S:AV->AV->ae AV->St}{K:St->Prop}(ho:∀p,(out p).length<=1)(hm:∀x y acc,bM (S x y acc).mem q=af (.lst (ms L)))
  (ht:∀p x y acc C,acc.length<=1000->C (S (.int p.1) (.int p.2) (acc++out p))->set (.tup [.int p.1, .int p.2]) (S x y acc) λ σ=>bd σ C):∀(r pre:ae (Int×Int)) (i:Nat) (x y:AV) (acc:ae AV),L=pre++r->i=pre.length->acc.length+r.length<=1000->
  (∀x y,K (S x y (acc++outs out r)))->lp set bd (r.length+1) (.own q i) (S x y acc) K
 |[],pre,i,x,y,acc,hL,hi,_,hK=>KU (hm x y acc) ((HW L i).trans (ah _ (ff (aV ((ah f4 (hL.trans (bS pre))).trans hi.symm))))) (bS acc▸hK x y)
 |p::r,pre,i,x,y,acc,hL,hi,hn,hK=>Ph (v:= .tup [.int p.1, .int p.2]) (hm x y acc) ((HW L i).trans (ah _ (hL▸hi▸KA pre p r)))
   (ht p x y acc _ (aG (bq ..) hn) (zZ ho hm ht r (pre++[p]) (i+1) _ _ (acc++out p) (hL.trans (List.append_cons pre p r)) (hi▸(bj (as:=pre) (bs:=[p])).symm) (bj▸aG (fH (hN (ho p) _) _) (aG (aV (cV _ 1 _)) hn)) λ x y=>(gT ..).symm▸hK x y))
noncomputable def szK(l:ae (Int×Int)):ae AV:=outs (λ p=>[.int p.1]) l
noncomputable def AU(le:Int)(l:ae (Int×Int)):ae AV:=outs (λ p=>aY (p.1==le) [.int p.2] []) l
def XJ(P:cC):CL P (pU.ct cN):=cl1 (NO [(1,"size",p0),(2,"value",p0)] 0 p0) (e8 1 p0)
def XI(P:cC):CL P (pT.ct cN):=T3 (NO [(1,"size",p0),(2,"value",p0)] 0 p0) (e8 2 p0) (Rs (e8 1 p0) .Eq (e8 3 p0) p0)
theorem T6{P:cC}{L:ae (Int×Int)}{D:AO}{il:ae Int}{K:St->Prop}(hn:L.length<=1000)(hK:∀x y,K ⟨[.undef,x,y],[D, .il il, .lst (ms L), .lst (szK L)]⟩):lp (XJ P).mS.set ((XJ P).body 3) (L.length+1) (.own 2 0) ⟨[.undef, .undef, .undef],[D, .il il, .lst (ms L), .lst []]⟩ K:=
 zZ (q:=2) (S:=λ x y acc=>⟨[.undef,x,y],[D, .il il, .lst (ms L), .lst acc]⟩) (λ aa=>cF _) (λ aa aa aa=>rfl) (λ p x y acc C hl h=>nf (B:=cK (bB acc.length 1000000) (C ⟨[.undef, .int p.1, .int p.2],[D, .il il, .lst (ms L), .lst (acc++[.int p.1])]⟩)) (by kernel_rfl) (cK.i (c6 (aG hl (by decide))) h)) L [] 0 _ _ [] rfl rfl (aG (aV (fB _)) hn) hK
theorem T5{P:cC}{L:ae (Int×Int)}{D:AO}{il:ae Int}{o3:AO}{le:Int}{K:St->Prop}(hn:L.length<=1000)(hK:∀x y,K ⟨[.undef,x,y, .int le],[D, .il il, .lst (ms L),o3, .lst (AU le L)]⟩):lp (XI P).mS.set ((XI P).body 4) (L.length+1) (.own 2 0) ⟨[.undef, .undef, .undef, .int le],[D, .il il, .lst (ms L),o3, .lst []]⟩ K:=
 zZ (q:=2) (S:=λ x y acc=>⟨[.undef,x,y, .int le],[D, .il il, .lst (ms L),o3, .lst acc]⟩) (λ p=>by cases p.1==le; exact oE 1; exact cF 1) (λ aa aa aa=>rfl) (λ p x y acc C hl h=>nf (B:=aY (p.1==le) (cK (bB acc.length 1000000) (C ⟨[.undef, .int p.1, .int p.2, .int le],[D, .il il, .lst (ms L),o3, .lst (acc++[.int p.2])]⟩)) (C ⟨[.undef, .int p.1, .int p.2, .int le],[D, .il il, .lst (ms L),o3, .lst acc]⟩)) (by kernel_rfl) (by
  cases e:p.1==le
  ·rw[e] at h; exact bS acc▸h
  ·rw[e] at h; exact cK.i (c6 (aG hl (by decide))) h)) L [] 0 _ _ [] rfl rfl (aG (aV (fB _)) hn) hK
noncomputable def pF(f:Int->Int)(v:Int):Int×Int:=(f v,v)
theorem HU{le:Int}{p:Int×Int}{r:ae (Int×Int)}(h:p.1=le):AU le (p::r)= .int p.2::AU le r:=ah (aY · [AV.int p.2] []++AU le r) (a_.mpr h)
theorem vN{le:Int}{p:Int×Int}{r:ae (Int×Int)}(h:p.1≠le):AU le (p::r)=AU le r:=ah (aY · [AV.int p.2] []++AU le r) (ed.mpr h)
theorem B2(f:Int->Int)(b:Int):∀r:ae Int,(∀v∈r,f b<=f v)->um f b r=b
 |[],_=>rfl
 |v::r,h=>(ah (λ c=>um f (aY c v b) r) (dj (gZ.mpr (h v aR)))).trans (B2 f b r λ x hx=>h x (aP _ hx))
theorem r4(f:Int->Int)(m:Int):∀(r:ae Int) (b:Int),(∀v∈b::r,m<=f v)->(∃v∈b::r,f v=m)->∃t,AU m ((b::r).map (pF f))= .int (um f b r)::t
 |[],b,h1,h2=>h2.elim λ v z=>⟨[],HU (p:=pF f b) (r:=[]) (be.mp z.1▸z.2)⟩
 |v::r,b,h1,h2=>by
  obtain⟨x,hx,e⟩:=h2
  have hb:=h1 b aR
  have hr:∀y∈r,m<=f y:=λ y hy=>h1 y (aP _ (aP _ hy))
  show ∃t,AU m (pF f b::pF f v::r.map (pF f))= .int (um f (aY (decide (f v < f b)) v b) r)::t
  by_cases q:f v < f b
  ·have nb:f b≠m:=jn (gD (h1 v (aP _ aR)) q)
   rw[cz q,vN (p:=pF f b) nb]
   exact r4 f m r v (λ y hy=>h1 y (aP _ hy)) ⟨x,(bQ.mp hx).resolve_left λ z=>nb (z▸e),e⟩
  ·rw[dj q]
   by_cases eb:f b=m
   ·exact⟨_,(HU (p:=pF f b) eb).trans (ah (λ z=>AV.int z::_) (B2 f b r λ y hy=>eb▸hr y hy).symm)⟩
   ·have nv:f v≠m:=jn (kt (Ie.mpr ⟨hb,Ne.symm eb⟩) (gZ.mp q))
    rw[vN (p:=pF f b) eb,vN (p:=pF f v) nv,← vN (p:=pF f b) eb]
    exact r4 f m r b (λ y hy=>(bQ.mp hy).elim (λ z=>z▸hb) (hr y)) ⟨x,bQ.mpr (.inr ((bQ.mp ((bQ.mp hx).resolve_left λ z=>eb (z▸e))).resolve_left λ z=>nv (z▸e))),e⟩
theorem Jd(L:ae (Int×Int)):intsOf (szK L)=af (L.map (·.1)):=by
 induction L with
 |nil=>rfl
 |cons p r ih=>show(match intsOf (szK r) with|some l=>af (p.1::l)|none=>none)=_; rw[ih]; rfl
theorem Fv{M:ae AO}{i:Nat}{L:ae (Int×Int)}{K:ae Int->Prop}(h:bM M i=af (.lst (szK L)))(k:K (L.map (·.1))):lY (.own i) M K:=dI h ((ah (sV · K) (Jd L)).mpr k)
def w3(P:cC):SX P cN:=Nc 8 p0 (Tp p0 (iV (N8 pU (e8 5 p0) (XJ P) p0) q7) p0) p0
def w4(P:cC):SX P cN:=Ta (e8 2 p0) (Wz (iV (e8 3 p0) (iV (e8 4 p0) q7)) 0 p0) p0 (FY (N8 pT (e8 5 p0) (XI P) p0) (yv 0 p0) p0) p0
def KF(K:Fl->St->Prop):Fl->St->Prop:=Lq 2 (G0.getD 3 []) K
def Wo(P:cC):SS P cN:=iJ (w3 P) (iJ (w4 P) lN)
def wtF(P:cC)(v:AV)(σ:St)(K:Fl->St->Prop):Prop:=Uy (jA P).lD (jA P).set (jz P).run v σ (pL (Wo P) (KF K))
def wt4(P:cC)(loc:ae AV)(m:ae AO)(K:Fl->St->Prop):Prop:=(iJ (w4 P) lN).run ⟨loc,m⟩ (KF K)
def wtS(k s:Int)(loc:ae AV)(m:ae AO)(K:Fl->St->Prop):Prop:=IU (.own 4) (.int 0) m λ v=>Jt (.own 0) (.tup [.int k, .int s]) v ⟨loc,m⟩ λ σ=>KF K .d8 σ
theorem Pre.put{k s x:Int}{ks:ae (ae Int)}{us:ae AV}(h:Pre k s ks us){t l1 l2:ae AV}{sl:ae Int}{loc:ae AV}{K:Fl->St->Prop}:wtS k s loc [.bG ks us, .il sl, .lst l1, .lst l2, .lst (.int x::t)] K=need (cM 0 (t.length+1)) (KF K .d8 ⟨loc,[.bG (ks++[[k,s]]) (us++[.int x]), .il sl, .lst l1, .lst l2, .lst (.int x::t)]⟩):=by
 rcases h with⟨rfl,rfl⟩|⟨rfl,rfl,rfl,c,rfl⟩<;>kernel_rfl
theorem To{k s b0:Int}{tl:ae Int}{f:Int->Int}{ks:ae (ae Int)}{us:ae AV}(sL:Pre k s ks us){sl:ae Int}{le o6:AV}(hle:pV le)(h6:pV o6)(hn:tl.length<=100)
  (H:∀v∈b0::tl,g6 (PV W X hX (d+1) true cB) (la bl) (jB pl dc ac a b) (ks++[[k,s]]) (us++[.int v]) (f v)) (K:Fl->St->Prop)
  (hK:∀o6 x,pV o6->K .d8 ⟨m_ pl dc ac a b bl k s .undef o6 .undef (.int x),[.bG (ks++[[k,s]]) (us++[.int (um f b0 tl)]), .il sl]⟩):
  wtF (PV W X hX (d+1) true cB) (.row (b0::tl)) ⟨m_ pl dc ac a b bl k s (.own 2) o6 .undef le,[.bG ks us, .il sl, .lst []]⟩ K:=
 have hl:((b0::tl).map (pF f)).length<=1000:=aG (aV (bL _)) (aG (eI hn) (by decide))
 have n3 (o6:AV) (L:ae (Int×Int)):pL (Wo (PV W X hX (d+1) true cB)) (KF K) .d8 ⟨m_ pl dc ac a b bl k s (.own 2) o6 .undef le,[.bG ks us, .il sl, .lst (ms L)]⟩=
   ∃N,lp (XJ (PV W X hX (d+1) true cB)).mS.set ((XJ (PV W X hX (d+1) true cB)).body 3) N (.own 2 0) ⟨[.undef, .undef, .undef],[.bG ks us, .il sl, .lst (ms L), .lst []]⟩ λ σ=>
    lY (.own 3) σ.mem λ ns=>aY ns.isEmpty False (wt4 (PV W X hX (d+1) true cB) (m_ pl dc ac a b bl k s (.own 2) o6 .undef (.int (C5 ns))) σ.mem K):=by kernel_rfl
 have n4 (o6:AV) (x:Int) (L:ae (Int×Int)) (l2:ae AV):wt4 (PV W X hX (d+1) true cB) (m_ pl dc ac a b bl k s (.own 2) o6 .undef (.int x)) [.bG ks us, .il sl, .lst (ms L), .lst l2] K=
   ∃N,lp (XI (PV W X hX (d+1) true cB)).mS.set ((XI (PV W X hX (d+1) true cB)).body 4) N (.own 2 0) ⟨[.undef, .undef, .undef, .int x],[.bG ks us, .il sl, .lst (ms L), .lst l2, .lst []]⟩ λ σ=>
    wtS k s (m_ pl dc ac a b bl k s (.own 2) o6 .undef (.int x)) σ.mem K:=by kernel_rfl
 have em:((b0::tl).map (pF f)).map (·.1)=(b0::tl).map f:=t9
 have mn:=tW ((b0::tl).map f) (λ h=>nomatch h)
 (r4 f (C5 ((b0::tl).map f)) tl b0 (λ v hv=>mn.2 _ (hF hv)) (dN.mp mn.1)).elim λ t ht=>
 ⟨_,H_ sL hle (b0::tl) [] 0 o6 (pL (Wo (PV W X hX (d+1) true cB)) (KF K)) h6 (aG (aV (fB _)) (aG (eI hn) (by decide))) H λ o6 h6=>
  nf (n3 o6 _) ⟨_,T6 hl λ x y=>Fv (L:=(b0::tl).map (pF f)) rfl (em▸nf (n4 o6 _ _ _) ⟨_,T5 hl λ x y=>ht.symm▸nf sL.put (Mine.nd ⟨by decide,Int.ofNat_succ_pos _,by decide⟩
   (Af rfl (Hh rfl h6 (.inr ⟨_,rfl⟩)) (bZ (sL.ZB _ _) (bZ rfl rfl)) (hK _ _ h6)))⟩)⟩⟩
theorem RO(hd:2<=d){k s:Int}{f:Int->Int}{ks:ae (ae Int)}{us:ae AV}(sL:Pre k s ks us){sl:ae Int}{le o6:AV}(hle:pV le)(h6:pV o6)(hk:k=1)
  (H:∀v∈OP,g6 (PV W X hX (d+1) true cB) (la bl) (jB pl dc ac a b) (ks++[[k,s]]) (us++[.int v]) (f v)) (K:Fl->St->Prop)
  (hK:∀o6 x,pV o6->K .d8 ⟨m_ pl dc ac a b bl k s .undef o6 .undef (.int x),[.bG (ks++[[k,s]]) (us++[.int (um f 1 [2,3])]), .il sl]⟩):
  (lW (PV W X hX (d+1) true cB)).run ⟨m_ pl dc ac a b bl k s .undef o6 .undef le,[.bG ks us, .il sl]⟩ K:=
 nf (B:=WC (PV W X hX (d+1) true cB) 35 [.int 2] [.bG ks us, .il sl, .lst []] λ v m=>wtF (PV W X hX (d+1) true cB) v ⟨m_ pl dc ac a b bl k s (.own 2) o6 .undef le,m⟩ K) (by subst hk; kernel_rfl) ((c35 hd _).known (To sL hle h6 (by decide) H K hK))
theorem A7(hd:2<=d){k s:Int}{f:Int->Int}{ks:ae (ae Int)}{us:ae AV}(sL:Pre k s ks us){sl:ae Int}{le o6:AV}(hle:pV le)(h6:pV o6)(hk:k=0)
  (H:∀v∈rZ,g6 (PV W X hX (d+1) true cB) (la bl) (jB pl dc ac a b) (ks++[[k,s]]) (us++[.int v]) (f v)) (K:Fl->St->Prop)
  (hK:∀o6 x,pV o6->K .d8 ⟨m_ pl dc ac a b bl k s .undef o6 .undef (.int x),[.bG (ks++[[k,s]]) (us++[.int (um f 16 rZ.tail)]), .il sl]⟩):
  (lW (PV W X hX (d+1) true cB)).run ⟨m_ pl dc ac a b bl k s .undef o6 .undef le,[.bG ks us, .il sl]⟩ K:=
 nf (B:=WC (PV W X hX (d+1) true cB) 28 [.int 5] [.bG ks us, .il sl, .lst []] λ v m=>wtF (PV W X hX (d+1) true cB) v ⟨m_ pl dc ac a b bl k s (.own 2) o6 .undef le,m⟩ K) (by subst hk; kernel_rfl) ((c28 hd _).known (To sL hle h6 (by decide) H K hK))
end
theorem vq{set:AV->St->(St->Prop)->Prop}{b:Body}{n p k:Nat}{v:AV}{ns:ae Int}{σ:St}{K:Fl->St->Prop}(hm:bM σ.mem p=af (.il ns))(e:nS (bX ns) k=af v)(h:set v σ λ aI=>b aI λ f aW=>sj f aW (λ dC=>js set b n (.own p (k+1)) dC K) K):js set b (n+1) (.own p k) σ K:=by
 refine dI hm ?_
 dsimp only
 rw[e]
 exact h
theorem wD{set:AV->St->(St->Prop)->Prop}{b:Body}{n p k:Nat}{ns:ae Int}{σ:St}{K:Fl->St->Prop}(hm:bM σ.mem p=af (.il ns))(e:nS (bX ns) k=none)(h:K .d8 σ):js set b (n+1) (.own p k) σ K:=by
 refine dI hm ?_
 dsimp only
 rw[e]
 exact h
theorem qC{P:cC}{v:AV}{σ:St}{K:St->Prop}(h:K (σ.set 4 v)):(pu P).set v σ K:=h
section
variable{prog:aK}{w:bw}{W:WK prog w}{X:BM->Prop}{hX:∀G G',dG G G'->X G->X G'}{d:Nat}{cB:x4}{bl:ae (ae (Int×ae Int))}{pl dc ac:ae Int}{a b:Int}
def wtO(P:cC)(pl dc ac:ae Int)(a b:Int)(bl:ae (ae (Int×ae Int)))(k:Int)(ns:ae Int)(K:AV->ae AO->Prop):Prop:=∃N,js (pu P).set (lW P).run N (.own 1 0) ⟨[jB pl dc ac a b,la bl, .own 0, .int k, .undef, .undef, .undef, .undef, .undef],[.bG [] [], .il ns]⟩ (pL (iJ (FC (e8 2 p0) p0) lN:SS P cN) (iH K))
theorem DR(L:LK W){ns:ae Int}(hz:zo dc=true)(hs:lM dc=ns){ks:ae (ae Int)}{us:ae AV}(hI:i5 (lZ 0 (.bG ks us::[.il ns]) 11) us=af us)(h:wtO (PV W X hX (d+1) true cB) pl dc ac 0 b bl 0 ns λ v m=>v= .own 0/\m= .bG ks us::[.il ns]):
  WC (PV W X hX (d+2) true cB) 897 [jB pl dc ac 0 b,la bl] [] λ v m=>v= .bG ks us/\m=[]:=
 AI (rest:=[.il (lM dc)]) (hs▸hI) (xF L rfl (nf (B:=cK (zo dc) (wtO (PV W X hX (d+1) true cB) pl dc ac 0 b bl 0 (lM dc) λ v m=>v= .own 0/\m= .bG ks us::[.il (lM dc)])) (by kernel_rfl) (cK.i hz (hs▸h))))
theorem N2(L:LK W){ns:ae Int}(hz:zo ac=true)(hs:lM ac=ns){ks:ae (ae Int)}{us:ae AV}(hI:i5 (lZ 0 (.bG ks us::[.il ns]) 11) us=af us)(h:wtO (PV W X hX (d+1) true cB) pl dc ac 1 b bl 1 ns λ v m=>v= .own 0/\m= .bG ks us::[.il ns]):
  WC (PV W X hX (d+2) true cB) 897 [jB pl dc ac 1 b,la bl] [] λ v m=>v= .bG ks us/\m=[]:=
 AI (rest:=[.il (lM ac)]) (hs▸hI) (xF L rfl (nf (B:=cK (zo ac) (wtO (PV W X hX (d+1) true cB) pl dc ac 1 b bl 1 (lM ac) λ v m=>v= .own 0/\m= .bG ks us::[.il (lM ac)])) (by kernel_rfl) (cK.i hz (hs▸h))))
theorem N3(L:LK W)(hd:2<=d){s:Int}{f:Int->Int}(hz:zo ac=true)(hs:lM ac=[s])
  (H:∀v∈OP,g6 (PV W X hX (d+1) true cB) (la bl) (jB pl dc ac 1 b) [[1,s]] [.int v] (f v)):
  WC (PV W X hX (d+2) true cB) 897 [jB pl dc ac 1 b,la bl] [] λ v m=>v= .bG [[1,s]] [.int (um f 1 [2,3])]/\m=[]:=
 N2 L hz hs rfl ⟨2,vq (v:= .int s) rfl rfl (qC (RO hd (ks:=[]) (us:=[]) (.inl ⟨rfl,rfl⟩) (.inl rfl) (.inl rfl) rfl H _ λ o6 x h6=>jv (wD rfl rfl ⟨rfl,rfl⟩)))⟩
theorem N4(L:LK W)(hd:2<=d){s:Int}{f:Int->Int}(hz:zo dc=true)(hs:lM dc=[s])
  (H:∀v∈rZ,g6 (PV W X hX (d+1) true cB) (la bl) (jB pl dc ac 0 b) [[0,s]] [.int v] (f v)):
  WC (PV W X hX (d+2) true cB) 897 [jB pl dc ac 0 b,la bl] [] λ v m=>v= .bG [[0,s]] [.int (um f 16 rZ.tail)]/\m=[]:=
 DR L hz hs rfl ⟨2,vq (v:= .int s) rfl rfl (qC (A7 hd (ks:=[]) (us:=[]) (.inl ⟨rfl,rfl⟩) (.inl rfl) (.inl rfl) rfl H _ λ o6 x h6=>jv (wD rfl rfl ⟨rfl,rfl⟩)))⟩
theorem N5(L:LK W)(hd:2<=d){f:Int->Int}{g:Int->Int->Int}{x:Int}(hx:x=um f 16 rZ.tail)(hm:x∈rZ)(hz:zo dc=true)(hs:lM dc=[0,1])
  (H:∀v∈rZ,g6 (PV W X hX (d+1) true cB) (la bl) (jB pl dc ac 0 b) [[0,0]] [.int v] (f v))
  (H2:∀u∈rZ,∀v∈rZ,g6 (PV W X hX (d+1) true cB) (la bl) (jB pl dc ac 0 b) [[0,0],[0,1]] [.int u, .int v] (g u v)):
  WC (PV W X hX (d+2) true cB) 897 [jB pl dc ac 0 b,la bl] [] λ v m=>v= .bG [[0,0],[0,1]] [.int x, .int (um (g x) 16 rZ.tail)]/\m=[]:=
 DR L hz hs rfl ⟨3,vq (v:= .int 0) rfl rfl (qC (A7 hd (ks:=[]) (us:=[]) (.inl ⟨rfl,rfl⟩) (.inl rfl) (.inl rfl) rfl H _ λ o6 y h6=>jv (hx▸vq (v:= .int 1) rfl rfl
  (qC (A7 hd (ks:=[[0,0]]) (us:=[.int x]) (.inr ⟨rfl,rfl,rfl,x,rfl⟩) (.inr ⟨y,rfl⟩) h6 rfl (H2 x hm) _ λ o6 z h6=>jv (wD rfl rfl ⟨rfl,rfl⟩))))))⟩
end
structure wa{prog:aK}{w:bw}(W:WK prog w)(bl:ae (ae (Int×ae Int)))(c:ul)(ks:ae (ae Int))(cs:ae Int):Prop where
 r:Gi W bl c ks cs
 k:BJ ks cs
 t:∀{X:BM->Prop} {hX:∀G G',dG G G'->X G->X G'} {d:Nat} {cB:x4},LK W->18<=d->WC (PV W X hX (d+2) true cB) 897 [c.v,la bl] [] λ v m=>v= .bG ks (bX cs)/\m=[]
section
variable{prog:aK}{w:bw}{W:WK prog w}{bl:ae (ae (Int×ae Int))}{pl dc ac:ae Int}{b s:Int}
theorem RE{IV sc:AV}{ks:ae (ae Int)}{us:ae Int}{X:BM->Prop}{hX:∀G G',dG G G'->X G->X G'}{d:Nat}{cB:x4}(h:Iu W IV sc ks us)(hd:18<=d):g6 (PV W X hX (d+1) true cB) IV sc ks (bX us) (V_ W IV sc ks us):=(AW W h).up (Gh (uT hd))
theorem Yc(h:Ka W bl (pl,dc,ac,1,b) 1 s OP)(hz:zo ac=true)(hs:lM ac=[s]):∃ks cs,wa W bl (pl,dc,ac,1,b) ks cs:=
 ⟨_,_, .one h rfl, .one _ _ _,λ L hd=>N3 L (aG (by decide) hd) hz hs λ v hm=>RE (h.z v hm) hd⟩
theorem PW(h:Ka W bl (pl,dc,ac,0,b) 0 s rZ)(hz:zo dc=true)(hs:lM dc=[s]):∃ks cs,wa W bl (pl,dc,ac,0,b) ks cs:=
 ⟨_,_, .one h (v0:=16) (r:=rZ.tail) rfl, .one _ _ _,λ L hd=>N4 L (aG (by decide) hd) hz hs λ v hm=>RE (h.z v hm) hd⟩
theorem abY(h:RX W bl (pl,dc,ac,0,b))(hz:zo dc=true)(hs:lM dc=[0,1]):∃ks cs,wa W bl (pl,dc,ac,0,b) ks cs:=
 ⟨_,_, .two h rfl, .two _ _,λ L hd=>N5 L (aG (by decide) hd) (g:=λ x v=>V_ W (la bl) (jB pl dc ac 0 b) [[0,0],[0,1]] [x,v]) rfl (zW _ _ _) hz hs (λ v hm=>RE (h.z v hm) hd) λ u hu v hm=>RE (h.y u hu v hm) hd⟩
def SHs(bl:ae (ae (Int×ae Int)))(two:aC):Prop:=bl.map (·.map (·.1))∈shB two
def Xa(bl:ae (ae (Int×ae Int))):Prop:=∀b∈bl,∀p∈b,v_ p.2
theorem WM(hr:Xa bl){p:Int}(hs:SHs bl false):(∃ks cs,wa W bl ([p],[0],[0],1,3) ks cs)/\∃ks cs,wa W bl ([p],[0],[1],1,3) ks cs:=
 ⟨Yc (s:=0) ⟨.inr ⟨rfl,rfl⟩,sn (ac:=[]) (.head _) rfl,λ v hv=>uM (ac:=[]) (.head _) rfl (.head _) hs hr (.cons (oW (Sa v hv)) rfl)⟩ rfl rfl,Yc (s:=1) ⟨.inr ⟨rfl,rfl⟩,sn (ac:=[]) (.tail _ (.head _)) rfl,λ v hv=>uM (ac:=[]) (.tail _ (.head _)) rfl (.head _) hs hr (.cons (oW (Sa v hv)) rfl)⟩ rfl rfl⟩
theorem Ss(hr:Xa bl){p:Int}{ac:ae Int}(hs:SHs bl false):(∃ks cs,wa W bl ([p],[0],ac,0,0) ks cs)/\∃ks cs,wa W bl ([p],[1],ac,0,0) ks cs:=
 ⟨PW (s:=0) ⟨.inl ⟨rfl,rfl⟩,sn (ac:=ac) (.tail _ (.tail _ (.head _))) rfl,λ v hv=>uM (ac:=ac) (.tail _ (.tail _ (.head _))) rfl (.head _) hs hr (.cons (oW (wv v hv)) rfl)⟩ rfl rfl,PW (s:=1) ⟨.inl ⟨rfl,rfl⟩,sn (ac:=ac) (.tail _ (.tail _ (.tail _ (.head _)))) rfl,λ v hv=>uM (ac:=ac) (.tail _ (.tail _ (.tail _ (.head _)))) rfl (.head _) hs hr (.cons (oW (wv v hv)) rfl)⟩ rfl rfl⟩
theorem g_C(hr:Xa bl){ac:ae Int}(hs:SHs bl true):(∃ks cs,wa W bl ([0,1],[0,0],ac,0,0) ks cs)/\∃ks cs,wa W bl ([0,1],[1,1],ac,0,0) ks cs:=
 ⟨PW (s:=0) ⟨.inl ⟨rfl,rfl⟩,sn (ac:=ac) (.tail _ (.tail _ (.tail _ (.tail _ (.head _))))) rfl,λ v hv=>uM (ac:=ac) (.tail _ (.tail _ (.tail _ (.tail _ (.head _))))) rfl (.head _) hs hr (.cons (oW (wv v hv)) rfl)⟩ rfl rfl,PW (s:=1) ⟨.inl ⟨rfl,rfl⟩,sn (ac:=ac) (.tail _ (.tail _ (.tail _ (.tail _ (.tail _ (.head _)))))) rfl,λ v hv=>uM (ac:=ac) (.tail _ (.tail _ (.tail _ (.tail _ (.tail _ (.head _)))))) rfl (.head _) hs hr (.cons (oW (wv v hv)) rfl)⟩ rfl rfl⟩
theorem g_D{e:Kd}(hr:Xa bl)(hs:SHs bl true)(he:e∈E9 pl ac)(hc:e.sc=ul.v (pl,dc,ac,0,0))(h2:e.two=true)(hk:e.ks=[[0,0],[0,1]])(hl:e.lo=0)(hh:e.hi=85)(hz:zo dc=true)(hd:lM dc=[0,1]):∃ks cs,wa W bl (pl,dc,ac,0,0) ks cs:=by
 obtain⟨sc,two,ks,lo,hi⟩:=e
 obtain rfl:sc=_:=hc
 obtain rfl:two=true:=h2
 obtain rfl:ks=_:=hk
 obtain rfl:lo=0:=hl
 obtain rfl:hi=85:=hh
 exact abY ⟨sn he rfl,λ v hv=>uM he rfl (.head _) hs hr (.cons (oW (wv v hv)) rfl),λ u hu v hv=>uM he rfl (.tail _ (.head _)) hs hr (.cons (oW (wv u hu)) (.cons (oW (wv v hv)) rfl))⟩ hz hd
theorem VU{two:aC}{s:ae Int}(hr:Xa bl):∀x∈jD two s,bl.map (·.map (·.1))∈oC x.1.1->∃ks cs,wa W bl x.1 ks cs:=by
 cases two
 ·exact all2 (λ h=>(WM hr h).1) (all2 (λ h=>(WM hr h).2) (all2 (λ h=>(Ss hr h).1) (all2 (λ h=>(Ss hr h).2) (all2 (λ h=>(Ss hr h).1) (all2 (λ h=>(Ss hr h).2) (sy))))))
 ·exact all2 (λ h=>(WM hr h).1) (all2 (λ h=>(WM hr h).2) (all2 (λ h=>(WM hr h).1) (all2 (λ h=>(WM hr h).2) (all2 (λ h=>(Ss hr h).1) (all2 (λ h=>(Ss hr h).2) (all2 (λ h=>(Ss hr h).1) (all2 (λ h=>(Ss hr h).2) (all2 (λ h=>(g_C hr h).1) (all2 (λ h=>g_D hr h (.tail _ (.tail _ (.tail _ (.tail _ (.tail _ (.tail _ (.head _))))))) rfl rfl rfl rfl rfl rfl rfl) (all2 (λ h=>g_D hr h (.tail _ (.tail _ (.tail _ (.tail _ (.tail _ (.tail _ (.tail _ (.head _)))))))) rfl rfl rfl rfl rfl rfl rfl) (all2 (λ h=>(g_C hr h).2) (sy))))))))))))
end
noncomputable def Dj(B k:Nat)(d:Int):Prop:=0<=d/\d.natAbs < 2 ^ (k * B)
theorem zg{B k:Nat}{d s:Int}(h:Dj B k d)(h0:0<=s)(hs:s.natAbs < 2 ^ B):Dj B (k+1) (d * s+s):=by
 obtain⟨h1,h2⟩:=h
 obtain⟨d,rfl⟩:=py h1
 obtain⟨s,rfl⟩:=py h0
 have e:(d:Int) * (s:Int)+(s:Int)=((d * s+s:Nat):Int):=by simp
 rw[e]
 refine⟨ku _,?_⟩
 simp only[Int.natAbs_natCast] at h2 hs ⊢
 rw[show d * s+s=(d+1) * s by rw[Nat.add_mul,Ii],show(k+1) * B=k * B+B by rw[Nat.add_mul,Ii],Nat.pow_add]
 exact aU (Ih s h2) (Nat.mul_lt_mul_of_pos_left hs (Nat.pow_pos (by decide)))
theorem Hy{B k:Nat}{d:Int}(h:Dj B k d):Dj B (k+1) d:=
 ⟨h.1,fw h.2 (rG (by decide) (Ih B (xK k)))⟩
theorem S2{B k:Nat}{d s:Int}(hB:B<=1048576)(hk:k<=63)(h:Dj B k d)(hs:s.natAbs < 2 ^ B):jH d s:=by
 refine JI (ty.mpr h.2) (ty.mpr hs) ?_
 have:k * B<=63 * 1048576:=Nat.mul_le_mul hk hB
 generalize k * B=x at this
 omega
section
variable{prog:aK}{w:bw}{W:WK prog w}{X:BM->Prop}{hX:∀G G',dG G G'->X G->X G'}{j:aC}{cB:x4}{d:Nat}
noncomputable def mxP(m s:Int):Int:=(m * 48271+s.fmod 2147483629+7919).fmod 2147483647
theorem Jg{B k:Nat}(hB:B<=1048576)(hk:k<=62){ns:ae Int}{dg m v:Int}{o:AV}(hd:Dj B k dg)(hv:v.natAbs < 2 ^ B):
  ∃WG s,Dj B (k+1) WG/\∀K:Fl->St->Prop,K .d8 ⟨[.row ns, .int WG, .int (mxP m s), .int v, .int s],[]⟩->(rl (PV W X hX (d+1) j cB)).run ⟨[.row ns, .int dg, .int m, .int v,o],[]⟩ K:=by
 cases e:decide (v>=0) with
 |true=>
  have h0:0<=v:=bg e
  cases e2:decide (v>=(10:Int) ^ gS 18) with
  |true=>
   refine⟨dg * v+v,v,zg hd h0 hv,λ K hK=>?_⟩
   conv=>whnf
   rw[e]
   conv=>whnf
   refine⟨⟨by decide,by decide⟩,?_⟩
   conv=>whnf
   rw[e2]
   conv=>whnf
   refine⟨S2 hB (by omega) hd hv,?_⟩
   conv=>whnf
   refine⟨kh (by decide),?_⟩
   conv=>whnf
   refine⟨by decide,?_⟩
   conv=>whnf
   refine⟨by decide,?_⟩
   exact hK
  |false=>
   refine⟨dg,v,Hy hd,λ K hK=>?_⟩
   conv=>whnf
   rw[e]
   conv=>whnf
   refine⟨⟨by decide,by decide⟩,?_⟩
   conv=>whnf
   rw[e2]
   conv=>whnf
   refine⟨kh (by decide),?_⟩
   conv=>whnf
   refine⟨by decide,?_⟩
   conv=>whnf
   refine⟨by decide,?_⟩
   exact hK
 |false=>
  have h0:¬(v>=0):=oN e
  have hs0:0<=-1 - v:=by omega
  have hs:(-1 - v).natAbs < 2 ^ B:=aU (by omega) hv
  cases e2:decide ((-1 - v)>=(10:Int) ^ gS 18) with
  |true=>
   refine⟨dg * (-1 - v)+(-1 - v),(-1 - v),zg hd hs0 hs,λ K hK=>?_⟩
   conv=>whnf
   rw[e]
   conv=>whnf
   refine⟨⟨by decide,by decide⟩,?_⟩
   conv=>whnf
   rw[e2]
   conv=>whnf
   refine⟨S2 hB (by omega) hd hs,?_⟩
   conv=>whnf
   refine⟨kh (by decide),?_⟩
   conv=>whnf
   refine⟨by decide,?_⟩
   conv=>whnf
   refine⟨by decide,?_⟩
   exact hK
  |false=>
   refine⟨dg,(-1 - v),Hy hd,λ K hK=>?_⟩
   conv=>whnf
   rw[e]
   conv=>whnf
   refine⟨⟨by decide,by decide⟩,?_⟩
   conv=>whnf
   rw[e2]
   conv=>whnf
   refine⟨kh (by decide),?_⟩
   conv=>whnf
   refine⟨by decide,?_⟩
   conv=>whnf
   refine⟨by decide,?_⟩
   exact hK
theorem C2{P:cC}{v:AV}{σ:St}{K:St->Prop}(h:K (σ.set 3 v)):(rp P).set v σ K:=h
theorem zj{B:Nat}(hB:B<=1048576){ns:ae Int}:∀(l:ae Int) (k i:Nat) (dg m:Int) (n o:AV),k+l.length<=63->Dj B k dg->(∀v∈l,v.natAbs < 2 ^ B)->
  ∃WG m' n' o',∀K:Fl->St->Prop,K .d8 ⟨[.row ns, .int WG, .int m',n',o'],[]⟩->js (rp (PV W X hX (d+1) j cB)).set (rl (PV W X hX (d+1) j cB)).run (l.length+1) (.fz i (bX l)) ⟨[.row ns, .int dg, .int m,n,o],[]⟩ K
 |[],k,i,dg,m,n,o,_,_,_=>⟨dg,m,n,o,λ K h=>h⟩
 |v::r,k,i,dg,m,n,o,hk,hd,hl=>by
  have hk:k+(r.length+1)<=63:=hk
  obtain⟨dg1,s1,hd1,h1⟩:=Jg (W:=W) (X:=X) (hX:=hX) (j:=j) (cB:=cB) (d:=d) hB (by omega) (ns:=ns) (m:=m) (o:=o) hd (hl v aR)
  obtain⟨WG,m',n',o',h2⟩:=zj hB r (k+1) (i+1) dg1 (mxP m s1) (.int v) (.int s1) (by omega) hd1 (λ x hx=>hl x (aP _ hx))
  exact⟨WG,m',n',o',λ K hK=>mw (C2 (h1 _ (jv (h2 K hK))))⟩
theorem Vz{B:Nat}(hB:B<=1048576){ns:ae Int}(hn:ns.length<=63)(hl:∀v∈ns,v.natAbs < 2 ^ B):
  ∃x y,WC (PV W X hX (d+2) j cB) 858 [.row ns] [] λ v m=>v= .own 0/\m=[.lst [.int x, .int y]]:=by
 obtain⟨x,y,n,o,h⟩:=zj (W:=W) (X:=X) (hX:=hX) (j:=j) (cB:=cB) (d:=d) hB (ns:=ns) ns 0 0 0 97 .undef .undef (by omega) ⟨dT _,by rw[Nat.zero_mul]; decide⟩ hl
 obtain⟨v,m,⟨rfl,rfl⟩,z⟩:=qy (W:=W) (X:=X) (hX:=hX) (j:=j) (cB:=cB) (d:=d) (i:=51) (e:=fe 858 hU ["script"] wi) (vs:=[.row ns]) (m:=[]) (I:=λ v m=>v= .own 0/\m=[.lst [.int x, .int y]]) rfl rfl rfl
  ⟨(.own 0,[.lst [.int x, .int y]]),⟨rfl,rfl⟩,λ K hK=>by
   conv=>whnf
   refine⟨ns.length+1,h _ ?_⟩
   exact hK⟩
 exact⟨x,y,z⟩
theorem uE{G:BM}{ρ:ae au}:∀{l:ae Int} {vs:ae ak},bJ G ρ (bX l) vs->cx l vs
 |[],vs=>id
 |n::r,vs=>λ h=>bJ.uc (Q:=λ vs=>cx (n::r) vs) h λ v us hv h=>hv.iu (Q:=λ v=>cx (n::r) (v::us)) λ t=>(uE h).cons
theorem WC.il{P:cC}{f:au}{vs:ae AV}{l:ae Int}(h:WC P f vs [] λ v m=>v= .own 0/\m=[.lst (bX l)]):WC P f vs [] λ v m=>v= .own 0/\m=[.il l]:=by
 refine⟨λ A G ρ s us r p m v=>X.eu (h.run A G ρ s us r p m v) (oy λ v s' z=>?_)⟩
 obtain⟨G',ρ',av,mem',⟨a,b,c,d,rfl,rfl⟩,q1,q2,q3,q4⟩:=z
 refine⟨G',ρ', .own 0,[.il l],⟨a,b,⟨c.kg,c.len,λ i x ao hx Yl=>?_,c.nd,c.fr⟩,d,rfl,rfl⟩,q1,q2,q3,q4⟩
 match i,Yl with
 |0,Yl=>
  cases Yl
  obtain⟨o,h1,us,h2,h3⟩:=c.obj 0 x (.lst (bX l)) hx rfl
  exact⟨o,h1,us,h2,uE h3⟩
theorem QN{B:Nat}(hB:B<=1048576){ns:ae Int}(hn:ns.length<=63)(hl:∀v∈ns,v.natAbs < 2 ^ B):
  ∃r:ae Int,r.length=2/\WC (PV W X hX (d+2) j cB) 858 [.row ns] [] λ v m=>v= .own 0/\m=[.il r]:=by
 obtain⟨x,y,h⟩:=Vz (W:=W) (X:=X) (hX:=hX) (j:=j) (cB:=cB) (d:=d) hB hn hl
 exact⟨[x,y],rfl,WC.il h⟩
end
theorem zi:∀l:ae (Int×ae Int),pb (l.map qZ)=true
 |[]=>rfl
 |_::r=>zi r
theorem Dl:∀l:ae (ae (Int×ae Int)),pb (l.map λ b=> .lst (b.map qZ))=true
 |[]=>rfl
 |b::r=>bN.mpr ⟨zi b,Dl r⟩
theorem GT:∀l:ae (Int×ae Int),z4 (l.map qZ)<=2
 |[]=>by decide
 |_::r=>Nat.max_le.mpr ⟨cF 2,GT r⟩
theorem K6:∀l:ae (ae (Int×ae Int)),z4 (l.map λ b=> .lst (b.map qZ))<=3
 |[]=>by decide
 |b::r=>Nat.max_le.mpr ⟨eI (GT b),K6 r⟩
theorem Cb:∀l:ae Int,z4 (bX l)=0
 |[]=>rfl
 |_::r=>(Nat.zero_max _).trans (Cb r)
theorem w8:∀l:ae Int,pb (bX l)=true
 |[]=>rfl
 |_::r=>w8 r
theorem xc(f:Nat->Nat):∀l:ae (ae Int),ew f (l.map AV.row)=l.map AV.row
 |[]=>rfl
 |x::r=>ah (AV.row x::·) (xc f r)
theorem CQ:∀l:ae Int,tu (bX l)
 |[]=>trivial
 |x::r=>⟨⟨x,rfl⟩,CQ r⟩
theorem B6{a:AV}{xs:ae AV}{m:ae AO}{K:aC->Prop}(ha:∀C,nt a m C=C xs)(p:pb xs=true)(d:z4 xs<=3)(h:K false):re .Om a a m K:=
 (ha _).mpr ((ha _).mpr (.inl ⟨rfl,p,aU d (by decide),h⟩))
structure Ov(P:cC)(fr gv rv:AV)(iv:Int)(o:Bj)(bl:ae (ae (Int×ae Int))):Prop where
 ks:BJ o.ks o.cs
 a:WC P 892 [fr,o.v,rv, .int iv] [] λ v m=>v=la bl/\m=[]
 b:WC P 675 [fr,gv,o.v, .int iv] [] λ v m=>v=la bl/\m=[]
 c:WC P 897 [o.v,la bl] [] λ v m=>v= .bG o.ks (bX o.cs)/\m=[]
noncomputable def Vh(ns:ae Int)(fr g rv:AV)(iv:Int)(a8 a9 a10 a11:AV):ae AV:=[.row ns, .own 1,fr,g,rv, .own 2, .int iv, .own 3,a8,a9,a10,a11]
noncomputable def Dw(rk:ae (ae Int))(ru:ae AV):AV:= .bG rk ru
section
variable{prog:aK}{w:bw}{W:WK prog w}{X:BM->Prop}{hX:∀G G',dG G G'->X G->X G'}{n:Nat}{ns r:ae Int}{fa wd iv:Int}{two:aC}{ps ru:ae AV}{rk:ae (ae Int)}{xs:ae Bj}
def YY(ns r:ae Int)(fr g rv:AV)(iv:Int)(xs:ae Bj)(a:AV×AV×AV×AV)(f:Gd):St:=⟨Vh ns fr g rv iv a.1 a.2.1 a.2.2.1 a.2.2.2,[.tab, .il r, .lst (xs.map (·.v)), .bG f.1 (bX f.2)]⟩
theorem Qq(EZ:∀f,ew f ps=ps)(hrv:∀f,ew f ru=ru){o:Bj}{a:AV×AV×AV×AV}{f:Gd}{m:Nat}{K:Fl->St->Prop}(h:∃bl,Ov (PV W X hX n true bR) (jy fa two wd) (gI ps) (Dw rk ru) iv o bl)(hf:JP f m)(hm:m+2<=1000)
  (hK:∀a,K .d8 (YY ns r (jy fa two wd) (gI ps) (Dw rk ru) iv xs a (mg f o.ks o.cs))):(C1 (PV W X hX n true bR)).set o.v (YY ns r (jy fa two wd) (gI ps) (Dw rk ru) iv xs a f) λ σ=>(CU (PV W X hX n true bR)).run σ K:=
 h.elim λ bl h=>
 have rr (f:Nat->Nat):ew f [Dw rk ru, .int iv]=[Dw rk ru, .int iv]:=ah (λ l=>[AV.bG rk l, .int iv]) (hrv f)
 have ro (f:Nat->Nat):ew f [o.v, .int iv]=[o.v, .int iv]:=rfl
 nf (B:=WC (PV W X hX n true bR) 892 [jy fa two wd,o.v,Dw rk ru, .int iv] [.tab, .il r, .lst (xs.map (·.v)), .bG f.1 (bX f.2)] λ v m=>(acU (PV W X hX n true bR)).run ⟨Vh ns (jy fa two wd) (gI ps) (Dw rk ru) iv o.v v a.2.2.1 a.2.2.2,m⟩ K) (by kernel_rfl)
 ((WC.anyM h.a (λ f=>M1 (r6 f) rfl (rr f)) (λ f=>r9 f bl) _).known
 (nf (B:=WC (PV W X hX n true bR) 675 [jy fa two wd,gI ps,o.v, .int iv] [.tab, .il r, .lst (xs.map (·.v)), .bG f.1 (bX f.2)] λ v m=>re .Om v (la bl) m λ b=>aY b (K (.ret (.bool false)) ⟨Vh ns (jy fa two wd) (gI ps) (Dw rk ru) iv o.v (la bl) a.2.2.1 a.2.2.2,m⟩) ((acV (PV W X hX n true bR)).run ⟨Vh ns (jy fa two wd) (gI ps) (Dw rk ru) iv o.v (la bl) a.2.2.1 a.2.2.2,m⟩ K)) (by kernel_rfl)
 ((WC.anyM h.b (λ f=>M1 (r6 f) (Ag (EZ f)) rfl) (λ f=>r9 f bl) _).known (B6 (λ aa=>rfl) (Dl bl) (K6 bl)
 (nf (B:=WC (PV W X hX n true bR) 897 [o.v,la bl] [.tab, .il r, .lst (xs.map (·.v)), .bG f.1 (bX f.2)] λ v m=>(acW (PV W X hX n true bR)).run ⟨Vh ns (jy fa two wd) (gI ps) (Dw rk ru) iv o.v (la bl) v a.2.2.2,m⟩ K) (by kernel_rfl)
 ((WC.anyM h.c (λ f=>M1 rfl (r9 f bl) rfl) (λ f=>ah (AV.bG o.ks) (s5 f _)) _).known
 (nf (B:=∃N,js (Mu (PV W X hX n true bR)).set (Mh (PV W X hX n true bR)).run N (.keys 0 o.ks) (YY ns r (jy fa two wd) (gI ps) (Dw rk ru) iv xs (o.v,la bl, .bG o.ks (bX o.cs),a.2.2.2) f) (pL (lN (P:=PV W X hX n true bR) (ct:=dL)) K)) (by kernel_rfl)
 ⟨3,Ha (S:=λ x u v=>⟨Vh ns (jy fa two wd) (gI ps) (Dw rk ru) iv o.v (la bl) (.bG o.ks (bX o.cs)) x,[.tab, .il r, .lst (xs.map (·.v)), .bG u v]⟩) h.ks (λ x a b f K h=>nf (by kernel_rfl) h) hf hm λ x=>hK (_,_,_,x)⟩)))))))
end
section
variable{prog:aK}{w:bw}{W:WK prog w}{X:BM->Prop}{hX:∀G G',dG G G'->X G->X G'}{n:Nat}
def WF(P:cC):CL P (F9.ct dL):=T3 (xy 1 p0) (e8 1 p0) (Tf (DU (e8 2 p0) 41 p0 (iV (FY (e8 1 p0) (yv 0 p0) p0) (iV (FY (e8 1 p0) (yv 1 p0) p0) (iV (FY (e8 1 p0) (yv 2 p0) p0) q7))) p0) .Om (FY (e8 3 p0) (e8 1 p0) p0) p0)
inductive BK(P:cC)(gv:AV)(rk:ae (ae Int))(ru:ae AV):ae Int->Prop
 |mk (a b c:Int) (r:ae Int) (h:wR rk ru [a,b,c]=af (.row r)) (w:WC P 802 [gv, .int a, .int b, .int c] [] λ v m=>v= .row r/\m=[]):BK P gv rk ru [a,b,c]
noncomputable def zL(P:cC)(gv:AV)(rk:ae (ae Int))(ru:ae AV):Prop:=∀k∈rk,BK P gv rk ru k
theorem EL{set:AV->St->(St->Prop)->Prop}{b:JO}{n k:Nat}{v:ae Int}{r:ae (ae Int)}{σ:St}{K:St->Prop}(h:set (.tup (bX v)) σ λ aI=>b aI λ aW=>lp set b n (.keys (k+1) r) aW K):lp set b (n+1) (.keys k (v::r)) σ K:=h
theorem IG{set:AV->St->(St->Prop)->Prop}{b:JO}{n k:Nat}{σ:St}{K:St->Prop}(h:K σ):lp set b (n+1) (.keys k []) σ K:=h
theorem Pd{ps ru:ae AV}{rk:ae (ae Int)}(EZ:∀f,ew f ps=ps){x0 x1:AV}{m0 m1 m2 m3 m4:AO}{k:ae Int}{C:St->Prop}(h:BK (PV W X hX n true bR) (gI ps) rk ru k)(hC:C ⟨[x0, .tup (bX k),gI ps, .bG rk ru],[m0,m1,m2,m3,m4, .lst []]⟩):
  (WF (PV W X hX n true bR)).mS.set (.tup (bX k)) ⟨[x0,x1,gI ps, .bG rk ru],[m0,m1,m2,m3,m4, .lst []]⟩ λ σ=>(WF (PV W X hX n true bR)).body 5 σ C:=by
 cases h with
 |mk a b c r hl hw=>
  exact nf (B:=WC (PV W X hX n true bR) 802 [gI ps, .int a, .int b, .int c] [m0,m1,m2,m3,m4, .lst []] λ v m=>Jb (wR rk ru [a,b,c]) λ u=>re .Om v u m λ bb=>aY bb (sG (P:=PV W X hX n true bR) (ct:=F9.ct dL) (e8 1 p0) 5 ⟨[x0, .tup (bX [a,b,c]),gI ps, .bG rk ru],m⟩ C) (C ⟨[x0, .tup (bX [a,b,c]),gI ps, .bG rk ru],m⟩)) (by kernel_rfl)
   ((WC.anyM hw (λ f=>M1 (Ag (EZ f)) rfl rfl) (λ f=>rfl) _).known (sk hl<|B6 (a:= .row r) (xs:=bX r) (λ aa=>rfl) (w8 r) (aG (aV (Cb r)) (oE 3)) hC))
theorem GE{ps ru:ae AV}{rk:ae (ae Int)}(EZ:∀f,ew f ps=ps){x0:AV}{m0 m1 m2 m3 m4:AO}{K:St->Prop}(hK:∀x1,K ⟨[x0,x1,gI ps, .bG rk ru],[m0,m1,m2,m3,m4, .lst []]⟩):∀(rest:ae (ae Int)) (i:Nat) (x1:AV),(∀k∈rest,BK (PV W X hX n true bR) (gI ps) rk ru k)->
  lp (WF (PV W X hX n true bR)).mS.set ((WF (PV W X hX n true bR)).body 5) (rest.length+1) (.keys i rest) ⟨[x0,x1,gI ps, .bG rk ru],[m0,m1,m2,m3,m4, .lst []]⟩ K
 |[],i,x1,_=>IG (hK x1)
 |k::rest,i,x1,H=>EL (Pd EZ (H k aR) (GE EZ hK rest (i+1) _ λ k hk=>H k (aP _ hk)))
end
def n9(v:AV)(m:ae AO):Prop:=v= .bool true/\bM m 0=af .tab
theorem Fz(f:Nat->Nat):∀l:ae Bj,ew f (l.map (·.v))=l.map (·.v)
 |[]=>rfl
 |o::r=>ah (o.v::·) (Fz f r)
section
variable{prog:aK}{w:bw}{W:WK prog w}{X:BM->Prop}{hX:∀G G',dG G G'->X G->X G'}{n:Nat}{ns r:ae Int}{fa wd iv:Int}{two:aC}{ps ru:ae AV}{rk:ae (ae Int)}{l:ae Bj}
theorem pj.fit{P:cC}{f:au}{dx qY:ae AV}{mem:ae AO}{K:AV->ae AO->Prop}(h:pj P f dx mem K)(e:dx=qY):pj P f qY mem K:=e▸h
theorem XM{α β γ:Type}(f:α->β->γ){a a':α}{b b':β}(h:a=a')(k:b=b'):f a b=f a' b':=congr (ah f h) k
theorem P3(EZ:∀f,ew f ps=ps)(hl:l.length < 100)(H:∀o∈l,GcA (PV W X hX (n+1) true bR) (jy fa two wd) (gI ps) iv o)(D:AO):
  pj (PV W X hX (n+2) true bR) 689 [jy fa two wd,gI ps, .own 2, .int iv] [.tab, .il r, .lst (l.map (·.v)),D] λ v m=>v= .own 4/\m=[.tab, .il r, .lst (l.map (·.v)),D, .bG (Hl ([],[]) l).1 (bX (Hl ([],[]) l).2)]:=
 have g:=pj.Cc (UI (W:=W) (X:=X) (hX:=hX) (n:=n) EZ l hl H) [0,2] [.tab, .il r, .lst (l.map (·.v)),D] rfl (by decide) rfl (λ i j ao hi hj=>match i,hi,hj with
  |0,hi,hj=>am hi▸am hj▸rfl
  |1,hi,hj=>am hi▸am hj▸ah (λ l=>af (AO.lst l)) (Fz _ l).symm)
 pj.fit (pj.mono g λ v m z=>z.elim λ v0 z=>z.elim λ m0 z=>⟨z.2.1.trans (ah (eA _) z.1.1),z.2.2.1.trans ((ah (upd _ _ · _) z.1.2).trans
  (XM (λ x y=>[AO.tab, .il r, .lst x,D, .bG (Hl ([],[]) l).1 y]) (Fz (eW [0,2] 4) l) (s5 (eW [0,2] 4) _)))⟩) (by
  show[eA _ (jy fa two wd),eA _ (gI ps), .own 2, .int iv]=_
  rw[r6,Ag (EZ _)])
theorem Me(EZ:∀f,ew f ps=ps)(hrv:∀f,ew f ru=ru)(l:ae Bj)(hl:l.length < 100)
  (H:∀o∈l,∃bl,Ov (PV W X hX (n+2) true bR) (jy fa two wd) (gI ps) (Dw rk ru) iv o bl)
  (H2:∀o∈l,GcA (PV W X hX (n+1) true bR) (jy fa two wd) (gI ps) iv o)
  (HR:zL (PV W X hX (n+2) true bR) (gI ps) rk ru):
  (YQ (PV W X hX (n+2) true bR)).run (YY ns r (jy fa two wd) (gI ps) (Dw rk ru) iv l (.undef, .undef, .undef, .undef) ([],[])) (iH n9):=
 nf (B:=∃N,js (C1 (PV W X hX (n+2) true bR)).set (CU (PV W X hX (n+2) true bR)).run N (.own 2 0) (YY ns r (jy fa two wd) (gI ps) (Dw rk ru) iv l (.undef, .undef, .undef, .undef) ([],[])) (pL (YR (PV W X hX (n+2) true bR)) (iH n9))) (by kernel_rfl)
 ⟨_,xg (p:=2) (A:=λ o=>∃bl,Ov (PV W X hX (n+2) true bR) (jy fa two wd) (gI ps) (Dw rk ru) iv o bl) (λ aa aa=>rfl) (λ o h=>h.elim λ aa h=>h.ks) (λ o a f m K h hf hm hK=>Qq EZ hrv h hf hm hK) l [] 0 _ ([],[]) 0 rfl rfl ⟨rfl,cF _⟩ (aG (fH (aG (aV (fB _)) (jG 2 (eZ hl))) 2) (by decide)) H λ a=>
  nf (B:=pj (PV W X hX (n+2) true bR) 689 [jy fa two wd,gI ps, .own 2, .int iv] [.tab, .il r, .lst (l.map (·.v)), .bG (Hl ([],[]) l).1 (bX (Hl ([],[]) l).2)] λ v m=>XK v (.own 3) m λ b=>aY b (n9 (.bool false) m) ((YS (PV W X hX (n+2) true bR)).run ⟨Vh ns (jy fa two wd) (gI ps) (Dw rk ru) iv a.1 a.2.1 a.2.2.1 a.2.2.2,m⟩ (iH n9))) (by kernel_rfl)
   ((P3 EZ hl H2 _).known ⟨rfl,rfl,CQ _,nf (B:=∃N,lp (WF (PV W X hX (n+2) true bR)).mS.set ((WF (PV W X hX (n+2) true bR)).body 5) N (.keys 0 rk) ⟨[.undef, .undef,gI ps, .bG rk ru],[.tab, .il r, .lst (l.map (·.v)), .bG (Hl ([],[]) l).1 (bX (Hl ([],[]) l).2), .bG (Hl ([],[]) l).1 (bX (Hl ([],[]) l).2), .lst []]⟩ λ σ=>re .sw (.own 5) (.own σ.mem.length) (σ.mem++[AO.lst []]) λ b=>n9 (.bool b) (σ.mem++[AO.lst []])) (by kernel_rfl)
    ⟨_,GE EZ (λ aa=>Or.inl ⟨rfl,rfl,by decide,rfl,rfl⟩) rk 0 .undef HR⟩⟩)⟩
end
theorem WC.src{P:cC}{f:au}{vs vs':ae AV}{v0:AV}{r r':ae Int}{M M':ae AO}{K:AV->ae AO->Prop}(p:Nat)(h:WC P f vs [.il r] λ v m=>v=v0/\m=[.il r'])(hv:vs'=ew (eW [p] M.length) vs)(hs:s7 [p] M.length=true)(hp:i5 (bM M) [p]=af [.il r])
  (hc:∀f,eA f v0=v0) (hM:bz M p (.il r')=M') (k:K v0 M'):WC P f vs' M K:=
 WC.FW [p] h hv hs rfl hp ((hc _).symm▸(hM▸bS _:upd (eW [p] M.length) [p] [.il r'] M=M').symm▸k)
section
variable{prog:aK}{w:bw}{W:WK prog w}{X:BM->Prop}{hX:∀G G',dG G G'->X G->X G'}
structure Xc(W:WK prog w)(X:BM->Prop)(hX:∀G G',dG G G'->X G->X G')(fr gv rv:AV)(iv:Int)(o:Bj):Prop where
 lw:∃bl,Ov (PV W X hX 26 true bR) fr gv rv iv o bl
 gc:GcA (PV W X hX 25 true bR) fr gv iv o
theorem Q9(U:UK W)(L:LK W){c:Int×aC×Int}(hc:c∈i4){cs:ae (aC×ae Int)}(hl:cs.length=(bi c).1+(bi c).2)(h:∀c∈cs,nL c){s:ae Int}{x:ul×ae Int}(hx:x∈jD c.2.1 s){iv:Int}(hi:iv=0\/iv=1\/iv=2):
  ∃o:Bj,o.v=x.1.v/\Xc W X hX (jy c.1 c.2.1 c.2.2) (sJ c.2.1 (bi c).1 cs) (oB c.2.1 (bi c).1 (bi c).2 (cs.map (·.2))) iv o:=
 (U0 (W:=W) (X:=X) (hX:=hX) U hc hl h (Q_ _ _ x hx) hi).elim λ bl I=>(VU (W:=W) (λ b hb p hp=>(dN.mp (I.rok b hb p hp)).elim λ y hy=>hy.2▸(h y hy.1).1) x hx I.shp).elim λ ks z=>z.elim λ vs R=>
  ⟨⟨x.1,ks,vs⟩,rfl,⟨bl,R.k,(I.law _ _ _ _).up (PGU (by decide)),(I.own _ _ _ _).up (PGU (by decide)),R.t (d:=24) L (by decide)⟩,
   R.k,Jq (hX:=hX) (Aj h) I (BI vs) λ lf=>KT (hX:=hX) R.r lf⟩
theorem ie{n:Nat}{R:ae (ae (ae (ae Int)))}{g:AV}{rk:ae (ae Int)}{ru:ae AV}(hg:ng R g){a b d:Int}(ha:Ao a=true)(hb:Ao b=true)(hd:Ao d=true){Lr:ae (ae (ae Int))}{C:ae (ae Int)}{r:ae Int}(e1:Lu R a.toNat=af Lr)(e2:Lu Lr d.toNat=af C)(e3:Lu C b.toNat=af r)(e4:wR rk ru [a,b,d]=af (.row r)):BK (PV W X hX (n+2) true bR) g rk ru [a,b,d]:=
 (Sv (W:=W) (X:=X) (hX:=hX) (j:=true) (cB:=bR) (d:=n) hg ha hb hd e1 e2 e3).elim λ v z=>z.elim λ m z=>⟨a,b,d,r,e4,z.1.1▸z.1.2▸z.2⟩
theorem Q4{n:Nat}:∀c∈i4,∀(ρ:Nat->ae Int) (gv:AV),ng (oz c.2.1 (bi c).1 ((eB ((bi c).1+(bi c).2)).map ρ)) gv->zL (PV W X hX (n+2) true bR) gv (Ds c.2.1 (bi c).1 (bi c).2) (((eB ((bi c).1+(bi c).2)).map ρ).map AV.row):=
 all2 (λ ρ gv g=>all2 (ie g rfl rfl rfl rfl rfl rfl rfl) (sy)) (all2 (λ ρ gv g=>all2 (ie g rfl rfl rfl rfl rfl rfl rfl) (all2 (ie g rfl rfl rfl rfl rfl rfl rfl) (sy))) (all2 (λ ρ gv g=>all2 (ie g rfl rfl rfl rfl rfl rfl rfl) (all2 (ie g rfl rfl rfl rfl rfl rfl rfl) (sy))) (all2 (λ ρ gv g=>all2 (ie g rfl rfl rfl rfl rfl rfl rfl) (all2 (ie g rfl rfl rfl rfl rfl rfl rfl) (all2 (ie g rfl rfl rfl rfl rfl rfl rfl) (all2 (ie g rfl rfl rfl rfl rfl rfl rfl) (sy))))) (all2 (λ ρ gv g=>all2 (ie g rfl rfl rfl rfl rfl rfl rfl) (all2 (ie g rfl rfl rfl rfl rfl rfl rfl) (sy))) (all2 (λ ρ gv g=>all2 (ie g rfl rfl rfl rfl rfl rfl rfl) (all2 (ie g rfl rfl rfl rfl rfl rfl rfl) (sy))) (all2 (λ ρ gv g=>all2 (ie g rfl rfl rfl rfl rfl rfl rfl) (all2 (ie g rfl rfl rfl rfl rfl rfl rfl) (all2 (ie g rfl rfl rfl rfl rfl rfl rfl) (sy)))) (all2 (λ ρ gv g=>all2 (ie g rfl rfl rfl rfl rfl rfl rfl) (all2 (ie g rfl rfl rfl rfl rfl rfl rfl) (all2 (ie g rfl rfl rfl rfl rfl rfl rfl) (sy)))) (sy))))))))
theorem M_{c:Int×aC×Int}(hc:c∈i4){cs:ae (aC×ae Int)}(hl:cs.length=(bi c).1+(bi c).2)(h:∀c∈cs,nL c){n:Nat}:
  zL (PV W X hX (n+2) true bR) (sJ c.2.1 (bi c).1 cs) (Ds c.2.1 (bi c).1 (bi c).2) ((cs.map (·.2)).map AV.row):=
 have e:(eB ((bi c).1+(bi c).2)).map (λ i=>(cs.map ph).getD i [])=cs.map ph:=(ah (λ n=>(eB n).map λ i=>(cs.map ph).getD i []) (hl.symm.trans (bL _).symm)).trans (CW [] (cs.map ph))
 (ah (λ r=>ng (oz c.2.1 (bi c).1 r) (sJ c.2.1 (bi c).1 cs)->zL (PV W X hX (n+2) true bR) (sJ c.2.1 (bi c).1 cs) (Ds c.2.1 (bi c).1 (bi c).2) (r.map AV.row)) e).mp (Q4 c hc _ _) (Aj h)
end
theorem Dk{α β γ:Type}{v:α->γ}{u:β->γ}{A:β->Prop}:∀xs:ae α,(∀x∈xs,∃o,u o=v x/\A o)->∃l:ae β,l.map u=xs.map v/\∀o∈l,A o
 |[],_=>⟨[],rfl,λ aa h=>nomatch h⟩
 |x::r,h=>(h x (.head _)).elim λ o z=>(Dk r λ y hy=>h y (.tail _ hy)).elim λ l y=>⟨o::l,congr (ah _ z.1) y.1,λ p hp=>(bQ.mp hp).elim (λ e=>e▸z.2) (y.2 p)⟩
theorem Vv{i:Int}(h:0<=i/\i<=2 - 1):i=0\/i=1:=by omega
theorem Wl{i:Int}(h:0<=i/\i<=3 - 1):i=0\/i=1\/i=2:=by omega
noncomputable def I6(ns:ae Int)(fr g rv a5 a6 a7:AV):ae AV:=[.row ns, .own 1,fr,g,rv,a5,a6,a7, .undef, .undef, .undef, .undef]
section
variable{prog:aK}{w:bw}{W:WK prog w}{X:BM->Prop}{hX:∀G G',dG G G'->X G->X G'}{ns:ae Int}{c:Int×aC×Int}{cs:ae (aC×ae Int)}{ps:ae AV}
theorem Va(U:UK W)(L:LK W){r:ae Int}(hr:r.length=2)(hc:c∈i4)(hl:cs.length=(bi c).1+(bi c).2)(h:∀c∈cs,nL c)(eg:sJ c.2.1 (bi c).1 cs=gI ps)(P6:∀f,ew f ps=ps)
  (xs:ae ul) (hx:∀x∈xs,∃s t,(x,t)∈jD c.2.1 s) (hn:xs.length < 100):
  (SN (PV W X hX 26 true bR)).run ⟨I6 ns (jy c.1 c.2.1 c.2.2) (gI ps) (oB c.2.1 (bi c).1 (bi c).2 (cs.map (·.2))) (.own 2) .undef .undef,[.tab, .il r, .lst (xs.map (·.v))]⟩ (iH n9):=by
 obtain⟨x,y,rfl⟩:=mT hr
 obtain⟨v,m,⟨rfl,rfl⟩,wt⟩:=FO (W:=W) (X:=X) (hX:=hX) (j:=true) (cB:=bR) (d:=24) (x:=x) (y:=y) (top:=3) (by decide) (by decide)
 obtain⟨l,e1,e2⟩:=Dk (v:=ul.v) (u:=Bj.v) xs λ x WO=>(hx x WO).elim λ s z=>z.elim λ t hxs=>(Q9 (W:=W) (X:=X) (hX:=hX) U L hc hl h hxs (Wl (nz [_,y] (by decide))))
 have HR:=M_ (W:=W) (X:=X) (hX:=hX) hc hl h (n:=24)
 rw[eg] at HR e2
 exact nf (B:=WC (PV W X hX 26 true bR) 865 [.own 1, .int 3] [.tab, .il [x,y], .lst (xs.map (·.v))] λ v m=>(YQ (PV W X hX 26 true bR)).run ⟨I6 ns (jy c.1 c.2.1 c.2.2) (gI ps) (oB c.2.1 (bi c).1 (bi c).2 (cs.map (·.2))) (.own 2) v (.own m.length),m++[.bG [] []]⟩ (iH n9)) (by kernel_rfl)
  (WC.src 1 wt rfl rfl rfl (λ aa=>rfl) rfl (e1▸Me (n:=24) P6 (xc · _) l (aU (aV ((bL _).symm.trans ((ah f4 e1).trans (bL _)))) hn) (λ o ho=>(e2 o ho).lw) (λ o ho=>(e2 o ho).gc) HR))
def abu(C:St->Prop)(loc:ae AV)(v:AV)(m:ae AO):Prop:=pJ m 2 λ o=>match o with
 | .lst xs=>cK (bB xs.length 1000000) (C ⟨loc,bz m 2 (.lst (xs++[v]))⟩)
 |_=>False
def Sl(P:cC):CL P (On.ct dL):=cl1 (xy 1 p0) (DT (Ww "_law_scan" (.fn 882) p0) (iV (e8 3 p0) (iV (e8 2 p0) q7)) p0)
theorem Md(w1:∀r:ae Int,r.length=2->∃x∈jD c.2.1 r,WC (PV W X hX 26 true bR) 882 [.own 0,jy c.1 c.2.1 c.2.2] [.il r] λ v m=>v=x.1.v/\m=[.il x.2]){K:St->Prop}:∀(n:Nat) (i:Int) (r:ae Int) (acc:ae ul) (y:AV),r.length=2->acc.length+n<=1000->(∀x∈acc,∃s t,(x,t)∈jD c.2.1 s)->
  (∀(y:AV) (r':ae Int) (xs:ae ul),r'.length=2->xs.length=acc.length+n->(∀x∈xs,∃s t,(x,t)∈jD c.2.1 s)->K ⟨[.undef,y,jy c.1 c.2.1 c.2.2, .own 1],[.tab, .il r', .lst (xs.map ul.v)]⟩)->
  lp (Sl (PV W X hX 26 true bR)).mS.set ((Sl (PV W X hX 26 true bR)).body 2) (n+1) (.j_ n i 1) ⟨[.undef,y,jy c.1 c.2.1 c.2.2, .own 1],[.tab, .il r, .lst (acc.map ul.v)]⟩ K
 |0,_,r,acc,y,hr,_,ha,hK=>hK y r acc hr rfl ha
 |n+1,i,r,acc,y,hr,hn,ha,hK=>(w1 r hr).elim λ x z=>
  nf (B:=WC (PV W X hX 26 true bR) 882 [.own 1,jy c.1 c.2.1 c.2.2] [.tab, .il r, .lst (acc.map ul.v)] (abu (lp (Sl (PV W X hX 26 true bR)).mS.set ((Sl (PV W X hX 26 true bR)).body 2) (n+1) (.j_ n (i+1) 1) · K) [.undef, .int i,jy c.1 c.2.1 c.2.2, .own 1])) (by kernel_rfl)
   (WC.src 1 z.2 (ah (λ v=>[AV.own 1,v]) (r6 _).symm) rfl rfl (λ aa=>rfl) rfl (cK.i (c6 (aG (aV (bL _)) (aG (bq ..) (aG hn (by decide)))))
    ((ah (λ l=>lp (Sl (PV W X hX 26 true bR)).mS.set ((Sl (PV W X hX 26 true bR)).body 2) (n+1) (.j_ n (i+1) 1) ⟨[.undef, .int i,jy c.1 c.2.1 c.2.2, .own 1],[.tab, .il x.2, .lst l]⟩ K) (List.map_append (l₁:=acc) (l₂:=[x.1]) (f:=ul.v))).mp
     (Md w1 n (i+1) x.2 (acc++[x.1]) (.int i) (Jr _ r x z.1) (bj▸aG (aV (cV _ 1 _)) hn) (λ y hy=>(fS.mp hy).elim (ha y) λ h=>be.mp h▸⟨r,x.2,z.1⟩)
      λ y r' xs h1 h2=>hK y r' xs h1 (h2.trans (bj▸cV _ 1 _))))))
def acM(P:cC)(n:Nat)(ns:ae Int)(fr g rv:AV)(r:ae Int):Prop:=∃N,lp (Sl P).mS.set ((Sl P).body 2) N (.j_ n 0 1) ⟨[.undef, .undef,fr, .own 1],[.tab, .il r, .lst []]⟩ λ σ=>(SN P).run ⟨I6 ns fr g rv (.own 2) .undef .undef,σ.mem⟩ (iH n9)
theorem Vb(U:UK W)(L:LK W){r:ae Int}(hr:r.length=2)(hc:c∈i4)(hl:cs.length=(bi c).1+(bi c).2)(h:∀c∈cs,nL c)(eg:sJ c.2.1 (bi c).1 cs=gI ps)(P6:∀f,ew f ps=ps):
  (SM (PV W X hX 26 true bR)).run ⟨I6 ns (jy c.1 c.2.1 c.2.2) (gI ps) (oB c.2.1 (bi c).1 (bi c).2 (cs.map (·.2))) .undef .undef .undef,[.tab, .il r]⟩ (iH n9):=by
 obtain⟨x,y,rfl⟩:=mT hr
 obtain⟨v,m,⟨rfl,rfl⟩,wt⟩:=FO (W:=W) (X:=X) (hX:=hX) (j:=true) (cB:=bR) (d:=24) (x:=x) (y:=y) (top:=2) (by decide) (by decide)
 have w1 (r:ae Int) (h:r.length=2):∃x∈jD c.2.1 r,WC (PV W X hX 26 true bR) 882 [.own 0,jy c.1 c.2.1 c.2.2] [.il r] λ v m=>v=x.1.v/\m=[.il x.2]:=(VV (W:=W) (X:=X) (hX:=hX) h).imp λ x=> .imp_right λ z=>z.up (WD (W:=W) (X:=X) (hX:=hX) (j:=true) (cB:=bR) (d:=25) (n:=5) (by decide))
 have sc (n:Nat) (hn:n<=2) (r:ae Int) (hr:r.length=2):acM (PV W X hX 26 true bR) n ns (jy c.1 c.2.1 c.2.2) (gI ps) (oB c.2.1 (bi c).1 (bi c).2 (cs.map (·.2))) r:=
  ⟨n+1,Md w1 n 0 r [] .undef hr (aG (aV (fB n)) (aG hn (by decide))) (λ aa h=>nomatch h) λ y r' xs h1 h2 h3=>Va U L h1 hc hl h eg P6 xs h3 (h2▸aU (aV (fB n)) (aU hn (by decide)))⟩
 have h1:=Vv (nz [x,y] (top:=2) (by decide))
 have h2:(gF [x,y] 2).length=2:=rfl
 generalize FQ [x,y] 2=v at wt h1
 generalize gF [x,y] 2=r at wt h2
 conv=>whnf
 refine WC.src (M':=[.tab, .il r]) 1 wt rfl rfl rfl (λ aa=>rfl) rfl ?_
 rcases h1 with rfl|rfl
 ·exact nf (by kernel_rfl) (sc 1 (by decide) r h2)
 ·exact nf (by kernel_rfl) (sc 2 (by decide) r h2)
def acN(P:cC)(loc:ae AV)(v:AV)(m:ae AO):Prop:=AN [(3,"grid",p0),(4,"rows",p0)] v ⟨loc,m⟩ λ σ=>(SM P).run σ (iH n9)
theorem YT(U:UK W)(L:LK W){B:Nat}(hB:B<=1048576){ns:ae Int}(hn:ns.length<=63)(hl:∀v∈ns,v.natAbs < 2 ^ B):pj (PV W X hX 27 true bR) 902 [.row ns] [.tab] n9:=by
 obtain⟨r0,h0,w1⟩:=QN (W:=W) (X:=X) (hX:=hX) (j:=true) (cB:=bR) (d:=24) hB hn hl
 obtain⟨c,hc,r1,h1,w2⟩:=PP (W:=W) (X:=X) (hX:=hX) h0
 obtain⟨cs,r2,hcs,h2,hok,w3⟩:=Ur (W:=W) (X:=X) (hX:=hX) hc h1
 have w2:=w2.up (WD (W:=W) (X:=X) (hX:=hX) (j:=true) (cB:=bR) (d:=25) (n:=5) (by decide))
 have w3:=w3.up (WD (W:=W) (X:=X) (hX:=hX) (j:=true) (cB:=bR) (d:=25) (n:=5) (by decide))
 obtain⟨ps,eg,P6⟩:=Aj (two:=c.2.1) (n0:=(bi c).1) hok
 have eF:G3 c.2.1 (bi c).1 (bi c).2 cs= .tup [gI ps,oB c.2.1 (bi c).1 (bi c).2 (cs.map (·.2))]:=ah (λ g=>AV.tup [g,oB c.2.1 (bi c).1 (bi c).2 (cs.map ph)]) eg
 have cf (f:Nat->Nat):eA f (.tup [gI ps,oB c.2.1 (bi c).1 (bi c).2 (cs.map (·.2))])= .tup [gI ps,oB c.2.1 (bi c).1 (bi c).2 (cs.map (·.2))]:=
  congr (ah (λ l k=>AV.tup [gI l, .bG (Ds c.2.1 (bi c).1 (bi c).2) k]) P6.eW) (xc f _)
 exact Qi (d:=25) L rfl (nf (B:=WC (PV W X hX 26 true bR) 858 [.row ns] [.tab] λ v m=>(YO (PV W X hX 26 true bR)).run ⟨[.row ns,v, .undef, .undef, .undef, .undef, .undef, .undef, .undef, .undef, .undef, .undef],m⟩ (iH n9)) (by kernel_rfl)
  (WC.FW [] w1 rfl rfl rfl rfl (nf (B:=WC (PV W X hX 26 true bR) 872 [.own 1] [.tab, .il r0] λ v m=>(YP (PV W X hX 26 true bR)).run ⟨I6 ns v .undef .undef .undef .undef .undef,m⟩ (iH n9)) (by kernel_rfl)
   (WC.src (M':=[.tab, .il r1]) 1 w2 rfl rfl rfl r6 rfl (nf (B:=WC (PV W X hX 26 true bR) 877 [.own 1,jy c.1 c.2.1 c.2.2] [.tab, .il r1] (acN (PV W X hX 26 true bR) (I6 ns (jy c.1 c.2.1 c.2.2) .undef .undef .undef .undef .undef))) (by kernel_rfl)
    (WC.src (M':=[.tab, .il r2]) 1 (eF▸w3) (ah (λ v=>[AV.own 1,v]) (r6 _).symm) rfl rfl cf rfl (Vb U L h2 hc hcs hok eg λ f=>P6.eW)))))))
end
theorem Ug{prog:aK}{w:bw}{t:im Fin}{s:ar}{R:iT->ar->Prop}(acp:s.asleep)
  (h:cL true (aE prog w) ud t (λ fin s'=>∃f,fin= .done f/\R (.ok f) s'/\leftWithCleanup s'.gens=false) s):
  ∃n r s' s'',schedN (denote table) prog w n (.single s ⟨t, .builtin "claim.caller" {},default,[]⟩)= .halted (ue r) s''/\
   runN (denote table) prog w n s ⟨t, .builtin "claim.caller" {},default,[]⟩= .halted (ue r) s''/\s''.forget=s'.forget/\R r s':=by
 refine wp_halts_full (M:=aE prog w) (R:=R) (p:=default) acp ?_
 refine oG _ _ t (λ fin p' s' z=>?_) (λ aa aa aa f=>f.elim) _ _ (h _ default caller_in λ aa=>⟨by decide,λ x hx=>nomatch hx⟩)
 obtain⟨f,rfl,hf⟩:=z
 exact hf
noncomputable def uB(g:au->aq Obj)(l:ae au):eJ:=l.filterMap λ a=>(g a).map λ o=>(a,o)
def fragOf(h:Heap)(l:ae au):eJ:=uB h.get? l
theorem IQ{h:Heap}{l:ae au}{a:au}{o:Obj}(e:(fragOf h l).lookup a=af o):h.get? a=af o/\a∈l:=
 (JE.mp (mem_of_lookupK e)).elim λ b z=>(eM.mp z.2).elim λ o' q=>(cU q.2).1▸(cU q.2).2▸⟨q.1,z.1⟩
def Hc(K:eJ):aC:=pa (nsIn K dk "law") λ r=>pa r λ v=>xb v (aT · 902)
theorem Mb{K:eJ}(h:Hc K=true):nsIn K dk "law"=af (af (.ref 902)):=
 ge h λ r e h=>ge h λ v e' h=>(lE h).elim λ a q=>e.trans (ah af (e'.trans (ah af (q.1.trans (ah du (aL q.2))))))
def Sr(K:eJ):aC:=FA.all (Cd K)&&(Yd K 668&&(Cd K WJ&&(Cd K WI&&(Hc K&&kJ K))))
def KN(K:eJ):ae FuncBody:=(fdOf K 668).body::(fdOf K 897).body::(fdOf K 902).body::FA.map λ e=>(fdOf K e.f).body
def Sf(P:cC):ae FuncBody:= .stmts (xD P):: .stmts (ib P).bA:: .stmts (wh P).bA::FA.map λ e=> .stmts (e.b P).bA
structure OH(prog:aK)(w:bw)(as:ae au)(s:ar):Prop where
 a:tabsOk (fragOf s.heap as) TT=true
 b:Sr (fragOf s.heap as)=true
 c:KN (fragOf s.heap as)=Sf (P0 prog w)
 d:s.heap.get? dM=af (tw #[])
 e:(s.heap.get? di).isSome=true
section
variable{prog:aK}{w:bw}
theorem Li{as:ae au}{s:ar}(y:OH prog w as s):∃W:WK prog w,W.K=fragOf s.heap as/\UK W/\LK W/\Hc W.K=true/\kJ W.K=true/\s.heap.get? dM=af (tw #[])/\∃o,s.heap.get? di=af o:=
 have b1:=aF y.b
 have b2:=aF b1.2
 have b3:=aF b2.2
 have b4:=aF b3.2
 have b5:=aF b4.2
 have c1:=qt y.c
 have c2:=qt c1.2
 have c3:=qt c2.2
 ⟨⟨fragOf s.heap as,y.a,b1.1,c3.2⟩,rfl,⟨b2.1,c1.1⟩,⟨b3.1,c2.1,b4.1,c3.1⟩,b5.1,b5.2,y.d,jx.mp y.e⟩
theorem Qa{K:eJ}{h:Heap}(hK:K.In h)(c:kJ K=true):isCodeTable h dM:=
 (yQ hK c).elim λ o z=>z.elim λ vs z=>z.elim λ aa z=>z.elim λ aa z=>z.elim λ aa z=>z.elim λ aa z=>z.elim λ aa z=>z.elim λ aa z=>z.elim λ aa z=>⟨wq,o,vs,z.1,z.2.1,z.2.2.1,z.2.2.2.1⟩
def CH(h:Heap):Heap:=hideAll h [dM]
theorem sK{h:Heap}{b:au}{o:Obj}(e:h.get? b=af o)(n:b≠dM):(CH h).get? b=af o:=hideAll_get _ e (by simpa using n)
theorem CI{h:Heap}:(CH h).get? dM=none:=hideAll_none [dM] aR
theorem Em{h:Heap}{a:au}{m:bI->aq ak}(x:h.Ns a m)(n:a≠dM):(CH h).Ns a m:=let ⟨o,es,ep,e,r⟩:=x; ⟨o,es,ep,sK e n,r⟩
theorem Rw{p:aK}{loose:ae bI}{mg mb:bI->aq ak}{h:Heap}(T:n8 p loose mg mb h):n8 p loose mg mb (CH h):=
 ⟨Em T.g (by decide),Em T.b (by decide),let ⟨mc,a,b⟩:=T.nolimit; ⟨mc,Em a (by decide),b⟩,T.builtins,T.free⟩
theorem O1{K:eJ}{p:aK}{loose:ae bI}{mg mb:bI->aq ak}{h h':Heap}(hK:∀a o,K.lookup a=af o->h.get? a=af o/\a≠dM)(T:n8 p loose mg mb h)(hs:∃o,h.get? di=af o)(k:∀b o,h.get? b=af o->h'.get? b=af o):J1 K (λ a=>(CH h').get? a):=
 ⟨CH h,p,loose,mg,mb,λ a o e=>sK (hK a o e).1 (hK a o e).2,Rw T,hs.imp λ aa ho=>sK ho (by decide),λ a o e=>sK (k _ _ (of_hideAll _ e)) λ q=>nomatch (q▸e:(CH h).get? dM=af o).symm.trans CI⟩
theorem old_kept{h h':Heap}{ps:bD ak}{oT:Obj}(it:isCodeTable h dM)(ht:h.get? dM=af (tw #[]))(hT:h'.get? dM=af oT)(e:oT=tw ps)(kp:∀a o,a≠dM->h.get? a=af o->h'.get? a=af o):OldK h h' where
 old:=λ b o q=>(n6 (b=dM)).elim (λ z=> .inr (.inl (z▸(am (ht.symm.trans (z▸q)))▸⟨it,rfl,#[],ps,rfl,hT.trans (ah af (e.trans (ah tw Array.empty_append.symm)))⟩))) λ n=> .inl (kp _ _ n q)
 there:=λ b o q=>(n6 (b=dM)).elim (λ z=>⟨oT,z▸hT⟩) λ n=>⟨o,kp _ _ n q⟩
theorem Mc{W:WK prog w}(U:UK W)(L:LK W)(hc:kJ W.K=true){p:aK}{loose:ae bI}{mg mb:bI->aq ak}{s:Heap}{s₁:ar}(hK:∀a o,W.K.lookup a=af o->s.get? a=af o/\a≠dM)(T:n8 p loose mg mb s)(hsy:∃o,s.get? di=af o)
  (k:∀b o,s.get? b=af o->s₁.heap.get? b=af o) (ht:s₁.heap.get? dM=af (tw #[])) (hg:s₁.gens=#[]) {l:au} {o:Obj} {vs:bD ak} {ns:ae Int} (ho:s₁.heap.get? l=af o) (hl:i3 o vs) (hi:cx ns vs.toList) (hn:ns.length<=63) (hb:∀v∈ns,v.natAbs < 2 ^ 1048576):
  dP true (aE prog w) ud (.call (.ref 902) ⟨[.ref l],[]⟩) (Ht λ v s'=>v= .bool true/\OldK s₁.heap s'.heap/\s'.os=s₁.os/\AllBare s'.gens) s₁:=
 have IY:l≠dM:=λ q=>hl.elim λ n e=>Value.noConfusion (ah Obj.cls ((am (ht.symm.trans (q▸ho))).trans e):c_= .type "list")
 X.eu ((YT (W:=W) (X:=λ aa=>True) (hX:=λ aa aa aa h=>h) U L (cF _) hn hb).run ud (λ a=>(CH s₁.heap).get? a) [dM] s₁ [.ref l] rfl ⟨show ud.depth+3 * 27 < 990 by decide,show ud.units+12 * 27 < 9800 by decide,rfl⟩ ⟨O1 hK T hsy k,trivial⟩
  {kg:=λ a o e=>of_hideAll _ e,len:=rfl,nd:=dU.mpr ⟨bK,gC⟩,fr:=λ a ha=>be.mp ha▸CI
   obj:=λ i a ao Yr e=>match i,Yr,e with
    |0,Yr,e=>am Yr▸am e▸⟨_,ht,#[],rfl,trivial, .inl rfl⟩}
  (bJ.cons (VR.Q2 (sK ho IY) hl hi) bJ.nil))
  (oy λ v s' z=>z.casesOn λ G' ρ' av mem' h kp nw gf gz=>h.2.1.elim λ τ e=>
   (h.2.2.1.at (i:=0) ((eO ..).symm.trans h.2.2.2.2.2)).elim λ a q=>q.elim λ oT q=>q.2.2.elim λ ps t=>
    have ea:a=dM:=am (q.1.symm.trans (e▸rfl))
    ⟨(h.2.2.2.2.1▸h.2.2.2.1:VR G' ρ' (.bool true) v),old_kept (Qa (K:=W.K) (λ a o e=>k _ _ (hK a o e).1) hc) ht (ea▸q.2.1) t.1 λ a o n=>kp a o λ hm=>n (be.mp hm),gz.2,gz.1.2 (hg▸AllBare.empty)⟩)
end
def rj(p:aK):OpenLaw:={prog:=p,name:="law",about:=["ac_values"],foot:=9,most:=af 63,bound:=none,writes:=false}
def mJ(p:aK):ClaimW:=(rj p).row.toRowW.claim
theorem I1{d:WData}(h:su [] d .int=true):∃i:Int,d= .int i:=by
 cases d
 case int i=>exact⟨i,rfl⟩
 all_goals exact bt (show false=true from h) aX
theorem wN:∀{xs:ae WData},WShape.hasItems [] xs .int=true->∃ns:ae Int,xs=ns.map WData.int
 |[],_=>⟨[],rfl⟩
 |x::r,h=>have h:=aF (show(su [] x .int&&WShape.hasItems [] r .int)=true from h)
  (I1 h.1).elim λ i e=>(wN h.2).elim λ ns q=>⟨i::ns,e▸ah _ q⟩
theorem Fe{d:WData}(h:su [] d (.list .int)=true):∃ns:ae Int,d= .list (ns.map WData.int):=by
 cases d
 case list xs=>exact(wN ((Bool.or_false _).symm.trans h)).elim λ ns e=>⟨ns,ah _ e⟩
 all_goals exact bt (show false=true from h) aX
theorem Jh{p:aK}{args:ae WData}(h:(mJ p).pre args=true):∃ns:ae Int,args=[.list (ns.map WData.int)]/\ns.length<=63:=by
 have h:=aF (show(WShape.hasAll [] args [.list .int]&&(rj p).pre.holds [] {args:=args})=true from h)
 refine(hasAllW_cons h.1).elim λ d z=>z.elim λ r z=>(Fe z.2.1).elim λ ns e=>⟨ns,?_⟩
 have ea:args=[.list (ns.map WData.int)]:=z.1.trans (hasAllW_nil z.2.2▸e▸rfl)
 refine⟨ea,?_⟩
 have h2:=condW_of (t:= .and (.not (.lt (.lit (.int 63)) (.len (.arg 0)))) (.lit (.bool true))) (ea▸h.2) (w_and (w_not (w_lt w_lit (w_len_list (w_arg rfl)))) w_lit)
 have h3:(!decide ((63:Int) < ((ns.map WData.int).length:Nat)))=true:=(aF h2).1
 rw[bL] at h3
 exact pO.mp (gZ.mp (oN (nb h3)))
theorem QO{p:aK}(args ds:ae WData):(mJ p).post args (.bool true) ds=true:=
 show(su [] (.bool true) .bool&&WTm.holds [] (.eq .res (.lit (.bool true))) {args:=args,res:=af (.bool true),after:=ds})=true from(ah (su [] (.bool true) .bool&&·) (holdsW_of_value (w_eq_bool (w_res rfl) w_lit))).trans rfl
theorem aan{xs:ae WData}{k:Nat}(h:WData.weightAll xs<=k):∀x∈xs,WData.weight x<=k:=by
 induction xs with
 |nil=>exact λ x hx=>nomatch hx
 |cons y r ih=>
  have h:WData.weight y+1+WData.weightAll r<=k:=by unfold WData.weightAll at h; exact h
  intro x hx
  rcases bQ.mp hx with rfl|hx
  ·omega
  ·exact ih (by omega) x hx
theorem LW{i:Int}{k:Nat}(h:WData.weight (.int i)<=k):i.natAbs < 2 ^ k:=by
 unfold WData.weight at h
 split at h
 ·rename_i q
  have:i=0:=by simpa using q
  subst this
  exact Nat.pow_pos (by decide)
 ·rename_i q
  have hn:i.natAbs≠0:=by
   intro z; apply q; simpa using Int.natAbs_eq_zero.mp z
  exact fw (Nat.lt_log2_self (n:=i.natAbs)) (rG (by decide) h)
theorem Mf{ns:ae Int}(h:WData.layableAll [.list (ns.map WData.int)]=true):∀v∈ns,v.natAbs < 2 ^ 1048576:=by
 have h:(WData.canLay (.list (ns.map WData.int))&&decide (WData.depth (.list (ns.map WData.int))<=64)&&decide (WData.weight (.list (ns.map WData.int))<=2 ^ 20))=true:=(aF (show(WData.layable _&&true)=true from h)).1
 have hw:WData.weightAll (ns.map WData.int)<=1048576:=bg (aF h).2
 exact λ v hv=>LW (aan hw _ (hF hv))
theorem lay_ints{R:WRecords}{cl:bI->aq au}{P:Params}{ord:ae bf->ae bf}:∀(ns:ae Int) (s:ar),∃vs t,layAllW R cl P ord (ns.map WData.int) s=af (vs,{s with toks:=t})/\cx ns vs
 |[],s=>⟨[],s.toks,rfl,rfl⟩
 |i::r,s=>(lay_ints (R:=R) (cl:=cl) (P:=P) (ord:=ord) r {s with toks:=s.toks+1}).elim λ vs z=>z.elim λ t z=>⟨.int i s.toks::vs,t,
  (ah (λ q:aq (ae ak×ar)=>match q with
   |some r=>af (eD i s.toks::r.1,r.2)
   |Option.none=>Option.none) z.1:),s.toks,vs,rfl,z.2⟩
theorem Mg{R:WRecords}{cl:bI->aq au}{P:Params}{ord:ae bf->ae bf}(ns:ae Int)(s:ar):∃(vs:ae ak) (t:Nat),layAllW R cl P ord [.list (ns.map WData.int)] s=af ([.ref s.heap.objs.size],{s with toks:=t,heap:=s.heap.push {cls:= .type "list",data:= .seq vs.toArray}})/\cx ns vs:=
 (lay_ints (R:=R) (cl:=cl) (P:=P) (ord:=ord) ns s).imp λ vs z=>z.imp λ t z=>⟨by unfold layAllW layW; rw[z.1]; rfl,z.2⟩
noncomputable def SO(vs:ae ak):Obj:=⟨.type "list",none, .seq vs.toArray 0,#[]⟩
def sP(s:ar)(t:Nat)(vs:ae ak):ar:={s with toks:=t,heap:=s.heap.push (SO vs)}
theorem Jp{p q:aK}{w:bw}{as:ae au}{s:ar}{ord:ae bf->ae bf}{args:ae WData}{loose:ae bI}{mg mb:bI->aq ak}{Q:Prop}(has:dM∉as)(TR:n8 q loose mg mb s.heap)(hg:s.gens=#[])(y:OH p w as s)(P5:∀l,(ord l).Perm l)
  (LP:(mJ p).pre args=true) (P4:WData.layableAll args=true)
  (k:∀vs t bs,layAllW [] (classAt s.heap) w.params ord args s=af ([.ref s.heap.objs.size],sP s t vs)->Laid [] w s (sP s t vs) args [.ref s.heap.objs.size] bs->(sP s t vs).heap.life=s.heap.life->mg "law"=af (.ref 902)->
   dP true (aE p w) ud (.call (.ref 902) ⟨[.ref s.heap.objs.size],[]⟩) (Ht λ v s'=>v= .bool true/\OldK (sP s t vs).heap s'.heap/\s'.os=(sP s t vs).os/\AllBare s'.gens) (sP s t vs)->Q):Q:=
 (Jh LP).elim λ ns z=>(Li y).elim λ W f=>(Mg (R:=[]) (cl:=classAt s.heap) (P:=w.params) (ord:=ord) ns s).elim λ vs l=>l.elim λ t l=>
  have e:layAllW [] (classAt s.heap) w.params ord args s=af ([.ref s.heap.objs.size],sP s t vs):=z.1▸l.1
  have al:=layAllW_rest _ _ _ e
  have kp:=layAllW_keeps _ _ _ e
  have hK:∀a o,W.K.lookup a=af o->s.heap.get? a=af o/\a≠dM:=λ a o q=>(IQ (f.1▸q)).imp_right λ m z=>has (z▸m)
  (reads_layAllW P5 _ _ _ e P4 _ (λ aa aa q=>q)).elim λ bs r=>
   k vs t bs e ⟨⟨ord,P5,e⟩,r.1,r.2.1,r.2.2,kp,al.1.trans hg,al.2.2.1⟩ al.2.2.2 (mg_of (λ a o q=>(hK a o q).1) TR.g (Mb f.2.2.2.1))
    (Mc f.2.1 f.2.2.1 f.2.2.2.2.1 hK TR f.2.2.2.2.2.2 kp (kp _ _ f.2.2.2.2.2.1) (al.1.trans hg) (show(sP s t vs).heap.get? s.heap.objs.size=af (SO vs) from aN _ rfl) ⟨_,rfl⟩ l.2 z.2 (Mf (z.1▸P4)))
def Tt(p:aK)(s s₁:ar)(args:ae WData)(a:au)(r:iT)(s':ar):Prop:=(mJ p).Ends s args [.ref a] s₁ r s'/\s'.os=s.os
theorem M9{p:aK}{w:bw}{s s₁:ar}{args:ae WData}{a:au}{bs:ae au}{mg:bI->aq ak}(TR:s.heap.Ns dk mg)(laid:Laid [] w s s₁ args [.ref a] bs)(hz:s₁.asleep)(hmg:mg "law"=af (.ref 902))
  (e:dP true (aE p w) ud (.call (.ref 902) ⟨[.ref a],[]⟩) (Ht λ v s'=>v= .bool true/\OldK s₁.heap s'.heap/\s'.os=s₁.os/\AllBare s'.gens) s₁):
  ∃n r s' s'',schedN (denote table) p w n (.single s₁ ⟨(callStub "law" [.ref a]).cur, .builtin "claim.caller" {},default,[]⟩)= .halted (ue r) s''/\runN (denote table) p w n s₁ ⟨(callStub "law" [.ref a]).cur, .builtin "claim.caller" {},default,[]⟩= .halted (ue r) s''/\
   s''.forget=s'.forget/\Tt p s s₁ args a r s':=
 Ug (R:=Tt p s s₁ args a) hz (X.cM (X.any (wpAny_nsGet (TR.keeps laid.keeps) (hmg.symm▸X.cM (X.calls (X.eu e λ r s' z=>
  z.u (Q:=λ r s'=>match r with | .ok (.ret v)=>cL true (aE p w) ud (ret v) (λ fin s'=>∃f,fin=Fin.done f/\Tt p s s₁ args a (.ok f) s'/\leftWithCleanup s'.gens=false) s'|_=>False) λ v z=>
  have g:GoodWG (mJ p) (classAt s.heap) (ExcName.means s.heap) args s₁ (.ok (.ret (.bool true))) s':=⟨.inl ⟨.bool true, .bool true,[],rfl,λ aa=>rfl, .bool true,QO _ _,λ aa=>⟨gC,λ a ha=>nomatch ha⟩⟩,z.2⟩
  have q:=GoodWG.laid (c:=mJ p) rfl rfl (λ a b=>ident_freeW rfl rfl rfl a b) laid g
  X.ret ⟨_,rfl,⟨z.1▸q.1,q.2.1⟩,leftWithCleanup_false_of_bare q.2.2⟩))))))
theorem M8{p q:aK}{w:bw}{as:ae au}{s:ar}{loose:ae bI}{mg mb:bI->aq ak}{free:au->Prop}{gens:Prop}{kept:Heap->Prop}(has:dM∉as)(TR:n8 q loose mg mb s.heap)(hg:s.gens=#[])(hz:s.asleep)(y:OH p w as s)(hk:∀h,kept h):
  (mJ p).CallFrom (callStub "law") w free gens kept s:=λ args LP P4 ord P5=>
 Jp has TR hg y P5 LP P4 λ vs t bs e laid lf hmg c=>(M9 TR.g laid (Shared.asleep_of_life lf hz) hmg c).elim λ n z=>z.elim λ r z=>z.elim λ s2 z=>z.elim λ s3 z=>
  have q:=Shared.forget_eq z.2.2.1
  ⟨_,sP s t vs,e,n,_,s3,z.1,(z.2.2.2.1.congr q.1).imp (cR λ v d=>⟨ah ue d.1,d.2.1,d.2.2.1,d.2.2.2.1,λ b o y aa=>d.2.2.2.2.1 b o y,d.2.2.2.2.2⟩) (cR λ e=>cR λ ob=>cR λ cls d=>⟨ah ue d.1,d.2.1,d.2.2.1,d.2.2.2.1,d.2.2.2.2.1,λ b o y aa=>d.2.2.2.2.2 b o y⟩),
   λ aa i x hx=>bt ((ah (λ g:bD d7=>g[i]?) hg).symm.trans hx) (by rw[Array.getElem?_empty]; exact λ h=>nomatch h),hk _,ah (λ l:Life=>l.seen) ((runN_life _ _ _ z.2.1).trans lf),Shared.rest_eq (q.2.2.2.1.trans z.2.2.2.2)⟩
theorem I0{p q:aK}{loose:ae bI}{as:ae au}{N:Nat}{d:DefRec}{kwd:ae (bI×aB)}(has:dM∉as)(left:LeftO p q loose (λ aa=>true) (λ s=>∀w,OH p w as s) (λ aa=>True) N)(hch:chainsOk q=true)(ow:opensWell p=true)(hb:p.bare)
  (ab9:defOf q "law"=af (d,kwd)) (hp:p.theDef "law"=af (d.params,d.body,d.scope)) (hk:kwWritten? d.params.kwonlyargs d.params.kw_defaults=af kwd) (prom:(rj p).row.toRowW.promised) (VP:(rj p).row.wellSaid=true):(rj p).row.Holds:=
 ⟨VP,prom,⟨hb,ow,rfl⟩,prom.witness,λ w=>have z:=left.behind (XP:=λ aa aa=>True) (λ aa aa=>trivial) hch w
  ⟨z.1,λ s' Yw=>(z.2 s' Yw).imp λ k5 z=>⟨z.1,z.2.1,z.2.2.imp λ s z=>have hg:s.gens=#[]:=Array.eq_empty_of_size_eq_zero (a_.mp z.2.2.1)
   ⟨z.1,λ n hn=>be.mp hn▸pinned_of_view z.2.2.2.1 z.2.2.2.2.1 ab9 hp hk,(λ x hx=>nomatch hx),(λ x hx=>nomatch hx),M8 has (topRead_of z.2.2.2.2.1.T) hg z.2.1 (of_eq_true (p:=∀w,OH p w as s) z.2.2.2.2.2 w) λ h e=>nomatch e⟩⟩⟩⟩
end Mine
set_option maxHeartbeats 0
namespace Mine
def IW(T:BT):Nat->aq Obj:=BT.rec (motive:=λ aa=>Nat->aq Obj) (λ aa=>none)
 (λ v aa aa l r i=>iK (motive:=λ aa=>aq Obj) (iK (motive:=λ aa=>aq Obj) (r (Nat.sub (Nat.div i (nat_lit 2)) (nat_lit 1))) (l (Nat.div i (nat_lit 2))) (aT (Nat.mod i (nat_lit 2)) (nat_lit 1))) (af v) (aT i (nat_lit 0))) T
def E6(T:BT):Nat->Obj->BT:=BT.rec (motive:=λ aa=>Nat->Obj->BT) (λ aa o=> .node o .nil .nil)
 (λ v x y l r i o=>iK (motive:=λ aa=>BT) (iK (motive:=λ aa=>BT) (.node v x (r (Nat.sub (Nat.div i (nat_lit 2)) (nat_lit 1)) o)) (.node v (l (Nat.div i (nat_lit 2)) o) y) (aT (Nat.mod i (nat_lit 2)) (nat_lit 1))) (.node o x y) (aT i (nat_lit 0))) T
theorem vt:∀(T:BT) (i:Nat),IW T i=T.get i
 | .nil,_=>rfl
 | .node v l r,i=>by
  show iK (iK (IW r (i / 2 - 1)) (IW l (i / 2)) (aT (i % 2) 1)) (af v) (aT i 0)=(match aT i 0 with|true=>af v|false=>match aT (i % 2) 1 with|true=>l.get (i / 2)|false=>r.get (i / 2 - 1))
  rw[vt l,vt r]
  cases aT i 0<;>cases aT (i % 2) 1<;>rfl
theorem Am:∀(T:BT) (i:Nat) (o:Obj),E6 T i o=T.ins i o
 | .nil,_,_=>rfl
 | .node v l r,i,o=>by
  show iK (iK (.node v l (E6 r (i / 2 - 1) o)) (.node v (E6 l (i / 2) o) r) (aT (i % 2) 1)) (.node o l r) (aT i 0)=(match aT i 0 with|true=>BT.node o l r|false=>match aT (i % 2) 1 with|true=> .node v (l.ins (i / 2) o) r|false=> .node v l (r.ins (i / 2 - 1) o))
  rw[Am l,Am r]
  cases aT i 0<;>cases aT (i % 2) 1<;>rfl
noncomputable abbrev D7:=aq (fb×rJ)
def atQ(n:Nat)(T:BT)(a:Nat)(k:Obj->D7):D7:=iK (motive:=λ aa=>D7) none (mU (motive:=λ aa=>D7) none (λ o=>mU (motive:=λ aa=>D7) none k (alive o)) (IW T a)) (eK a n)
noncomputable def H4(ox:Nat)(ann:aq ak)(a:au):aC:=bB ox a||a==mainNs||a==cStatics||ann==af (.ref a)
def HP(p:aK)(w:bw)(u:au->aC)(s:fb)(t:rJ):D7:=
 SharedT.rec (motive:=λ aa=>D7) (λ T n life gens drawn toks os=>Thread.rec (motive:=λ aa=>D7) (λ cur code pos stack=>Sem.rec (motive:=λ aa=>D7) (λ aa=>none) (λ aa=>none) (λ aa=>none) (λ aa=>none) (λ aa aa aa=>none)
  (λ q k aa=>af (⟨T,n,life,gens,drawn,toks,os⟩,⟨k (),code,q,stack⟩))
  (λ a aa k aa=>atQ n T a λ o=>af (⟨T,n,life,gens,drawn,toks,os⟩,⟨k o,code,pos,stack⟩))
  (λ a aa f k aa=>iK (motive:=λ aa=>D7) none (atQ n T a λ aa=>af (⟨T.set a f,n,life,gens,drawn,toks,os⟩,⟨k (),code,pos,stack⟩)) (u a))
  (λ o k aa=>iK (motive:=λ aa=>D7) none (af (⟨E6 T n o,n+1,life,gens,drawn,toks,os⟩,⟨k n,code,pos,stack⟩)) (IW (E6 T n o) n).isSome)
  (λ aa aa aa=>none)
  (λ aa k aa=>af (⟨T,n,life,gens,drawn,toks,os⟩,⟨k (),code,pos,stack⟩))
  (λ aa aa aa=>none)
  (λ k aa=>af (⟨T,n,life,gens,drawn,toks+1,os⟩,⟨k toks,code,pos,stack⟩))
  (λ k aa=>af (⟨T,n,life,gens,drawn,toks,os⟩,⟨k {program:=p,params:=w.params},code,pos,stack⟩))
  (λ aa aa aa aa=>none) (λ aa aa aa aa=>none) (λ aa aa aa aa aa aa=>none) (λ aa aa aa=>none) (λ aa aa aa=>none) (λ aa aa aa=>none) (λ aa aa aa aa aa=>none) (λ aa aa aa aa aa=>none) (λ aa aa=>none) (λ aa aa aa=>none) (λ aa aa=>none) (λ aa aa aa aa aa aa=>none) cur) t) s
def vP(tb:cQ->aq bV)(p:aK)(w:bw)(ox:Nat)(ann:aq ak)(n:Nat):fb->rJ->aq fb:=Ea (motive:=λ aa=>fb->rJ->aq fb) (λ aa aa=>none)
 (λ aa k s t=>mU (motive:=λ aa=>aq fb) (aY (through t) (af s) (aY (stepOk ox ann t) (ob (stepT (denote tb) p w s t) λ r=>k r.1 r.2) none)) (λ r=>k r.1 r.2) (HP p w (H4 ox ann) s t)) n
section
variable{tb:cQ->aq bV}{p:aK}{w:bw}{ox n:Nat}{ann:aq ak}{s s':ar}{t t':rJ}{x:aq ar}
theorem VO(e:through t=true):Ec tb p w ox ann (n+1) s t=af s:=by
 unfold Ec
 rw[e]
theorem Na(e:through t=false)(k:stepOk ox ann t=true)(h:step (denote tb) p w s t= .go s' t')(q:Ec tb p w ox ann n s' t'=x):Ec tb p w ox ann (n+1) s t=x:=by
 unfold Ec
 rw[e,k,h]
 exact q
theorem Ky{m:Nat}{T:BT}{a:Nat}{k:Obj->D7}:atQ m T a k=(match eK a m with|true=>(match T.get a with|some o=>(match alive o with|some o'=>k o'|none=>none)|none=>none)|false=>none):=by
 unfold atQ
 rw[vt]
 cases eK a m
 ·rfl
 ·cases T.get a with
  |none=>rfl
  |some o=>
   show mU none k (alive o)=(match alive o with|some o'=>k o'|none=>none)
   cases alive o<;>rfl
theorem acz{T:BT}{m:Nat}{o:Obj}(f:BT->D7):iK (motive:=λ aa=>D7) none (f (E6 T m o)) (IW (E6 T m o) m).isSome=(match ((T.ins m o).get m).isSome with|true=>f (T.ins m o)|false=>none):=by
 rw[vt,Am]
 cases((T.ins m o).get m).isSome<;>rfl
theorem XE{b:aC}{x:D7}{r:fb×rJ}{Q:Prop}(h:iK (motive:=λ aa=>D7) none x b=af r)(z:b=true->x=af r->Q):Q:=by
 cases b
 ·exact cm h
 ·exact z rfl h
def OkQ(tb:cQ->aq bV)(p:aK)(w:bw)(ox:Nat)(ann:aq ak)(s:fb)(t:rJ)(r:fb×rJ):Prop:=through t=false/\stepOk ox ann t=true/\stepT (denote tb) p w s t=af r
theorem NC{s:fb}{t:rJ}{r:fb×rJ}(h:HP p w (H4 ox ann) s t=af r):OkQ tb p w ox ann s t r:=by
 obtain⟨T,m,life,gens,drawn,toks,os⟩:=s
 obtain⟨cur,code,pos,stack⟩:=t
 cases cur
 case «at»=>exact⟨d9 _,rfl,h⟩
 case load=>exact⟨d9 _,rfl,Ky.symm.trans h⟩
 case update=>exact XE h λ b h=>⟨d9 _,b,Ky.symm.trans h⟩
 case alloc o k=>exact⟨d9 _,rfl,(acz λ T=>af (⟨T,m+1,life,gens,drawn,toks,os⟩,⟨k m,code,pos,stack⟩)).symm.trans h⟩
 case point=>exact⟨d9 _,rfl,h⟩
 case fresh=>exact⟨d9 _,rfl,h⟩
 case ask=>exact⟨d9 _,rfl,h⟩
 all_goals exact cm h
theorem sq:∀{n:Nat} {s s':fb} {t:rJ},vP tb p w ox ann n s t=af s'->Ec tb p w ox ann n s.abs t=af s'.abs
 |0,_,_,_=>λ h=>cm h
 |n+1,s,_,t=>by
  intro h
  have h:=(show mU (motive:=λ aa=>aq fb) (aY (through t) (af s) (aY (stepOk ox ann t) (ob (stepT (denote tb) p w s t) λ r=>vP tb p w ox ann n r.1 r.2) none)) (λ r=>vP tb p w ox ann n r.1 r.2) (HP p w (H4 ox ann) s t)=_ from h)
  cases e:HP p w (H4 ox ann) s t with
  |some r=>
   have z:=NC (tb:=tb) e
   rw[e] at h
   exact Na z.1 z.2.1 (stepT_spec z.2.2) (sq h)
  |none=>
   rw[e] at h
   exact condB h (λ e h=>(VO e).trans (ah (λ x=>af x.abs) (am h))) λ e h=>condB h (λ k h=>ob.u h λ aa q h=>Na e k (stepT_spec q) (sq h)) λ aa h=>cm h
end
noncomputable def toBT:ae Obj->Nat->BT->aq (BT×Nat)
 |[],n,T=>af (T,n)
 |o::r,n,T=>aY ((T.ins n o).get n).isSome (toBT r (n+1) (T.ins n o)) none
theorem toBT_abs(life:Life):∀{l:ae Obj} {n:Nat} {T:BT} {T':BT} {n':Nat},toBT l n T=af (T',n')->D4 T' n' life=⟨(D4 T n life).objs++l.toArray,life⟩
 |[],n,T,T',n'=>λ h=>have e:=cU (am h); e.1▸e.2▸ah (Heap.mk · life) Array.append_empty.symm
 |o::r,n,T,T',n'=>λ h=>condB h (λ e h=>(toBT_abs life h).trans (ah (Heap.mk · life) (by
   rw[absHeap_ins e]
   show(D4 T n life).objs.push o++r.toArray=_
   rw[Array.push_eq_append,Array.append_assoc]
   exact ah _ (List.append_toArray [o] r)))) λ aa h=>cm h
def XW(tb:cQ->aq bV)(p:aK)(w:bw)(N:Nat)(k5:ar):aq fb:=
 aY (k5.heap.isNs dk&&k5.gens.size==0) (ob (toBT k5.heap.objs.toList 0 .nil) λ T=>ob (vP tb p w T.2 (k5.heap.nsMap dk "__annotations__") N ⟨T.1,T.2,k5.heap.life,k5.gens,k5.drawn,k5.toks,k5.os⟩ (topStub p)) λ s₁=>
  aY (staticsOk (BA p.main.body) k5.heap s₁.abs.heap&&namesBound p s₁.abs.heap&&gensDone s₁.abs&&laidKept k5.heap s₁.abs.heap) (af s₁) none) none
theorem PU{tb:cQ->aq bV}{p:aK}{w:bw}{N n:Nat}{k5 Te s₁:ar}(a:(k5.heap.isNs dk&&k5.gens.size==0)=true)(hs:Te=k5)(hn:n=k5.heap.objs.size)(b:Ec tb p w n (k5.heap.nsMap dk "__annotations__") N Te (topStub p)=af s₁)
  (c:(staticsOk (BA p.main.body) k5.heap s₁.heap&&namesBound p s₁.heap&&gensDone s₁&&laidKept k5.heap s₁.heap)=true):topFrom tb p w N k5=af s₁:=by
 subst hs hn
 unfold topFrom
 rw[a]
 dsimp only
 rw[b,lA,c]
theorem OO{h:Heap}{T:BT×Nat}(e:toBT h.objs.toList 0 .nil=af T):D4 T.1 T.2 h.life=h:=by
 rw[toBT_abs h.life (T':=T.1) (n':=T.2) e]
 simp [D4,BT.list]
theorem Ps{tb:cQ->aq bV}{p:aK}{w:bw}{N:Nat}{k5:ar}{s:fb}(h:XW tb p w N k5=af s):topFrom tb p w N k5=af s.abs:=
 condB h (λ e h=>ob.u h λ T hT h=>ob.u h λ s₁ h1 h=>condB h (λ e2 h=>have e3:=OO hT
  (PU e (ah (λ h=>{k5 with heap:=h}) e3) ((absHeap_size ..).symm.trans (ah (λ h=>h.objs.size) e3)) (sq h1) e2).trans (ah (λ x=>af x.abs) (am h))) λ aa h=>cm h) λ aa h=>cm h
def endsP(p:aK)(w:bw):aq fb:=(fencedOpening treeTable p w 13100).bind λ k5=>XW treeTable p w 13100 k5
def seenP(p q:aK)(loose:ae bI)(s:fb):=openSeen q loose (BA p.main.body) (λ aa=>true) true s.abs
lay_quick endsP seenP openGood
theorem Qj{p q:aK}{loose:ae bI}{Yf:ar->Prop}(h:∀w,(endsP p w).map (seenP p q loose)=af (openGood q loose))(y:∀w s,endsP p w=af s->Yf s.abs):LeftO p q loose (λ aa=>true) Yf (λ aa=>True) 13100:=λ w=>
 (eM.mp (h w)).elim λ s z=>(Option.bind_eq_some_iff.mp z.1).elim λ k5 q=>by
  unfold openEnds
  rw[q.1,lA,Ps q.2]
  exact ah af (Prod.ext z.2 (eq_true (y w s z.1)))
def Cv(s:fb)(a:au):aq Obj:=match eK a s.n with
 |true=>alive ((s.tree.get a).getD default)
 |false=>none
theorem Ah(s:fb)(a:au):Cv s a=s.abs.heap.get? a:=by
 unfold Cv
 cases e:eK a s.n with
 |true=>
  have h:a < s.n:=aQ e
  show alive _=(D4 s.tree s.n s.life).get? a
  cases g:s.tree.get a with
  |some o=>exact(abs_get h g).symm
  |none=>unfold Heap.get?; rw[absHeap_at,dq h,g]; rfl
 |false=>exact(abs_get_none λ h=>ay ((c6 h).symm.trans e)).symm
def uC(s:fb)(l:ae au):eJ:=uB (Cv s) l
theorem wF(s:fb)(l:ae au):uC s l=fragOf s.abs.heap l:=ah (uB · l) (funext (Ah s))
theorem map_some{α β:Type}{o:aq α}{f:α->β}{b:β}(h:o.map f=af b){s:α}(e:o=af s):f s=b:=am ((ah (ef f) e).symm.trans h)
def Ix:ae au:=eB 16++((clA.flatMap λ c=>[c,c - 1])++([902,901,897,896,668,667,572]++((FA.flatMap λ e=>[e.f,e.f - 1])++f0 113 123)))
noncomputable def Fh:ae bI:=gV.boundNames.filter (· !="law")
def sQ(a b:bI):aC:=Fast.lEq a.cps.toList b.cps.toList
theorem ZM{a b:bI}(h:sQ a b=true):a=b:=ah Str.mk (uP.mp (Fast.lEq_iff.mp h))
theorem S_(a b:bI):sQ a b=(a==b):=Bool.eq_iff_iff.mpr ⟨λ h=>a_.mpr (ZM h),λ h=>Fast.lEq_iff.mpr (ah (λ x:bI=>x.cps.toList) (a_.mp h))⟩
def U4(v:ak)(x:bI):aC:=match v with
 | .str s _=>sQ s x
 |_=>false
theorem Qc(v:ak)(x:bI):U4 v x=v.isStr x:=by
 cases v
 case str s _=>exact S_ s x
 all_goals rfl
def findQ(x:bI)(l:ae bf):aq bf:=k6 (motive:=λ aa=>aq bf) none (λ e aa r=>aY (U4 e.key x) (af e) r) l
theorem findQ_eq(x:bI):∀l:ae bf,findQ x l=l.find? (·.key.isStr x)
 |[]=>rfl
 |e::r=>by
  show aY (U4 e.key x) (af e) (findQ x r)=_
  rw[Qc,findQ_eq x r,xI]
  cases e.key.isStr x<;>rfl
def nsQ(K:eJ)(a:au)(f:ae bf->aq bf):aq (aq ak):=match K.lookup a with
 |some ⟨_,_, .dict es _,_⟩=>(match f es.toList with
   |some e=>af (af e.val)
   |none=>if es.toList.any (·.refKey) then none else af none)
 |_=>none
theorem Vo(K:eJ)(a:au)(x:bI):nsQ K a (findQ x)=nsIn K a x:=(ah (nsQ K a) (funext (findQ_eq x))).trans rfl
def KX(f:bI->bI->aC)(K:eJ)(cd:ak)(q:bI):aC:=match cd with
 | .ref c=>(match K.lookup c with
   |some ⟨_,_, .fields vs,_⟩=>(match vs.toList with|_:: .str n _::_=>f n q|_=>false)
   |_=>false)
 |_=>false
theorem KY(K:eJ)(cd:ak)(q:bI):KX sQ K cd q=codeIn K cd q:=(ah (KX · K cd q) (funext λ a=>funext (S_ a))).trans rfl
theorem wE{g:au->aq Obj}{b:au}{o:Obj}{r:ae au}(e:g b=af o):uB g (b::r)=(b,o)::uB g r:=jX (ah (ef λ o=>(b,o)) e)
theorem EV{g:au->aq Obj}{b:au}{r:ae au}(e:g b=none):uB g (b::r)=uB g r:=List.filterMap_cons_none (ah (ef λ o=>(b,o)) e)
theorem Cp{g:au->aq Obj}{a:au}{o:Obj}(e:g a=af o):∀{l:ae au},a∈l->(uB g l).lookup a=af o
 |[],m=>bt m bK
 |b::r,m=>(n6 (a=b)).elim (λ q=>by
   subst q
   exact(ah (F3 a) (wE e)).trans List.lookup_cons_self) λ n=>by
   have ih:=Cp e ((bQ.mp m).resolve_left n)
   cases q:g b with
   |none=>exact(ah (F3 a) (EV q)).trans ih
   |some x=>rw[wE q,f7,beq_false_of_ne n]; exact ih
def VL(s:fb)(a:au):aq Obj:=aY (bB 113 a&&eK a 236) (Cv s a) none
theorem Q1{s:fb}{a:au}{o:Obj}(h:VL s a=af o):(uC s Ix).lookup a=af o:=condB h (λ b h=>Cp h (cD _ (cD _ (cD _ (cD _ (List.mem_range'_1.mpr ⟨aQ (aF b).1,lU (aF b).2⟩)))))) λ aa h=>cm h
def Wh(L:au->aq Obj)(v:ak)(p:ae ak->aC):aC:=xb v λ a=>pa (L a) λ o=>tyB o.cls "tuple"&&No o p
def S6(L:au->aq Obj)(l:ae (ae Int)):ae ak->aC:=k6 (motive:=λ aa=>ae ak->aC) List.isEmpty (λ x aa ih us=>match us with
 |[]=>false
 |v::t=>Wh L v (y4 x)&&ih t) l
section
variable{K:eJ}{L:au->aq Obj}
theorem an{a b:aC}(x:a=true)(y:b=true):(a&&b)=true:=bN.mpr ⟨x,y⟩
theorem H0(hL:∀a o,L a=af o->K.lookup a=af o){v:ak}{p q:ae ak->aC}(hp:∀l,p l=true->q l=true)(h:Wh L v p=true):DL K v q=true:=
 (lE h).elim λ a z=>z.1▸ge z.2 λ o e k=>(AM (aF k).2).elim λ vs w=>w.elim λ n w=>by
  show pa (K.lookup a) _=true
  rw[hL a o e]
  refine an (aF k).1 ?_
  unfold No
  rw[w.1]
  exact hp _ w.2
theorem Dt(hL:∀a o,L a=af o->K.lookup a=af o):∀{xG:ae (ae Int)} {vs:ae ak},S6 L xG vs=true->AK K xG vs=true
 |[],[]=>λ aa=>rfl
 |[],_::_=>λ h=>h
 |_::_,[]=>λ h=>h
 |_::_,_::_=>λ h=>an (H0 hL (λ aa=>id) (aF h).1) (Dt hL (aF h).2)
def vrQ(K:eJ)(L:au->aq Obj)(v:AV)(u:ak):aC:=match v with
 | .m9 xG=>Wh L u (S6 L xG)
 |v=>RH K v u
theorem Wn(hL:∀a o,L a=af o->K.lookup a=af o){v:AV}{u:ak}(h:vrQ K L v u=true):RH K v u=true:=by
 cases v
 case m9=>exact H0 hL (λ aa=>Dt hL) h
 all_goals exact h
def glQ(K:eJ)(L:au->aq Obj)(gl:ae (bI×AV)):aC:=gl.all λ x=>pa (nsQ K dk (findQ x.1)) λ r=>pa r λ u=>vrQ K L x.2 u
theorem UF(hL:∀a o,L a=af o->K.lookup a=af o){gl:ae (bI×AV)}(h:glQ K L gl=true):Yh K gl=true:=aZ.mpr λ x m=>ge (aZ.mp h x m) λ r e k=>ge k λ u e' k=>by
 rw[Vo] at e
 rw[e,e']
 exact Wn hL k
def NL(K:eJ)(L:au->aq Obj)(T:Kg):aC:=glQ K L T.gl&&(yJ K T.blt&&(TM K T.at_&&(US K T.init&&Vj K T.tV)))
theorem NN(hL:∀a o,L a=af o->K.lookup a=af o){T:Kg}(h:NL K L T=true):tabsOk K T=true:=an (UF hL (aF h).1) (aF h).2
def ctB(ct:Ct)(xs:ae bI):aC:=wY ct.aS&&(xs.isPrefixOf ct.aS&&xs.all (λ x=>ct.names.lookup x==af .local||ct.names.lookup x==af .cell))
def fdR(K:eJ)(ct:Ct)(fd:dR)(gb:aC):aC:=(fd.scope.kind== .function)&&((fd.scope.isGenerator==gb)&&(!fd.scope.isCoroutine&&(fd.closure.isEmpty&&(aT fd.globals dk&&(aT fd.builtins li&&(KX sQ K fd.code fd.qualname&&cqB K ct fd))))))
def plR(p:qM):aC:=p.posonlyargs.isEmpty&&(p.vararg.isNone&&(p.kwonlyargs.isEmpty&&p.kwarg.isNone))
noncomputable abbrev H3:=FuncBody×ae (bI×dJ)×ae bI
def UM(K:eJ)(f:au):H3:=((fdOf K f).body,(fdOf K f).scope.names,(fdOf K f).params.args.map (·.arg))
def ws3(P:cC)(e:lj):H3:=(.stmts (e.b P).bA,e.ct.names,e.xs)
theorem Lj{ct:Ct}{xs:ae bI}{fd:dR}{gb:aC}(n:fd.scope.names=ct.names)(c:ctB ct xs=true)(h:fdR K ct fd gb=true):fdB K ct xs fd gb=true:=
 have h1:=aF h
 have h2:=aF h1.2
 have h3:=aF h2.2
 have h4:=aF h3.2
 have h5:=aF h4.2
 have h6:=aF h5.2
 have h7:=aF h6.2
 have c1:=aF c
 have c2:=aF c1.2
 an (a_.mpr n) (an h1.1 (an h2.1 (an h3.1 (an h4.1 (an h5.1 (an h6.1 (an ((KY ..).symm.trans h7.1) (an c1.1 (an c2.1 (an c2.2 h7.2))))))))))
theorem MS{p:qM}{xs:ae bI}(n:p.args.map (·.arg)=xs)(h:plR p=true):nT p xs=true:=
 have h1:=aF h
 have h2:=aF h1.2
 have h3:=aF h2.2
 an h1.1 (an h2.1 (an h3.1 (an h3.2 (a_.mpr n))))
def stB(e:lj):aC:=ctB e.ct e.xs&&(aT e.dm 0||e.xs==Nz)
def Pt(K:eJ)(e:lj):aC:=y7 K e.f&&(fdR K e.ct (fdOf K e.f) false&&(plR (fdOf K e.f).params&&aY (aT e.dm 0) (Za (fdOf K e.f).defaults) (Ub K (fdOf K e.f))))
theorem z5{P:cC}{e:lj}(n:UM K e.f=ws3 P e)(c:stB e=true)(h:Pt K e=true):Cd K e=true:=
 have n2:=cU (cU n).2
 have h1:=aF h
 have h2:=aF h1.2
 have h3:=aF h2.2
 an (an h1.1 (Lj n2.1 (aF c).1 h2.1)) (an (MS n2.2 h3.1) (by
  have z:=h3.2
  have c:=(aF c).2
  cases e0:aT e.dm 0 with
  |true=>rw[e0] at z; exact z
  |false=>rw[e0] at z c; exact an z c))
def abZ(K:eJ)(f:au):aC:=y7 K f&&(fdR K kK (fdOf K f) true&&(plR (fdOf K f).params&&Za (fdOf K f).defaults))
noncomputable def gxs:ae bI:=["frame","scan"]
def Lb(K:eJ):aC:=FA.all (Pt K)&&(abZ K 668&&(Pt K WJ&&(Pt K WI&&(Hc K&&kJ K))))
def UN(K:eJ):H3×H3×H3×ae H3:=(UM K 668,UM K 897,UM K 902,FA.map λ e=>UM K e.f)
def wsR(P:cC):H3×H3×H3×ae H3:=((fZ (xD P),kK.names,gxs),ws3 P WJ,ws3 P WI,FA.map (ws3 P))
end
theorem V6:(ctB kK gxs&&((WJ::WI::FA).all stB))=true:=by kernel_rfl
theorem Pu{K:eJ}{P:cC}(n:UN K=wsR P)(h:Lb K=true):Sr K=true/\KN K=Sf P:=
 have n1:=cU n
 have n2:=cU n1.2
 have n3:=cU n2.2
 have nm:=iS.mp n3.2
 have g:=cU n1.1
 have g2:=cU g.2
 have c:=aF V6
 have cs:=aZ.mp c.2
 have h1:=aF h
 have h2:=aF h1.2
 have h3:=aF h2.2
 have h4:=aF h3.2
 have k1:=aF h2.1
 have k2:=aF k1.2
 have k3:=aF k2.2
 ⟨an (aZ.mpr λ e m=>z5 (nm e m) (cs e (aP _ (aP _ m))) (aZ.mp h1.1 e m)) (an (an k1.1 (an (Lj g2.1 c.1 k2.1) (an (MS g2.2 k3.1) k3.2)))
  (an (z5 n2.1 (cs _ aR) h3.1) (an (z5 n3.1 (cs _ (aP _ aR)) h4.1) h4.2))),
  congr (ah m5 g.1) (congr (ah m5 (cU n2.1).1) (congr (ah m5 (cU n3.1).1) (iS.mpr λ e m=>(cU (nm e m)).1)))⟩
theorem OH.of{p:aK}{w:bw}{s:fb}(a:NL (uC s Ix) (VL s) TT=true)(b:Lb (uC s Ix)=true)(c:UN (uC s Ix)=wsR (P0 p w))(d:(Cv s dM,(Cv s di).isSome)=(af (tw #[]),true)):OH p w Ix s.abs:=
 have e:=Pu c b
 ⟨wF s Ix▸NN (λ aa aa=>Q1) a,wF s Ix▸e.1,wF s Ix▸e.2,(Ah s dM).symm.trans (cU d).1,(ah Option.isSome (Ah s di)).symm.trans (cU d).2⟩
def wellP(p:aK):aC:=(rj p).wellSaid
lay_quick wellP
noncomputable abbrev w_:=gV
theorem S8(w w':bw):(endsP w_ w).map (λ s=>(seenP w_ (view w_ [82]) Fh s,(Cv s dM,(Cv s di).isSome),UN (uC s Ix),NL (uC s Ix) (VL s) TT,Lb (uC s Ix)))=af (openGood (view w_ [82]) Fh,(af (tw #[]),true),wsR (P0 w_ w'),true,true):=by
 rw[PySem.W.Fast.te1907667993246908095,PySem.W.Fast.te8242757353448015592,PySem.W.Fast.te3486900944545009338]
 kernel_rfl
theorem Mi:LeftO w_ (view w_ [82]) Fh (λ aa=>true) (λ s=>∀w,OH w_ w Ix s) (λ aa=>True) 13100:=
 Qj (λ w=>(eM.mp (S8 w w)).elim λ s z=>eM.mpr ⟨s,z.1,(cU z.2).1⟩) λ w s e w'=>
  have z1:=cU (cU (map_some (S8 w w') e)).2
  have z2:=cU z1.2
  have z3:=cU z2.2
  OH.of z3.1 z3.2 z2.1 z1.1
noncomputable def TJ:aC->ae aC->aC
 |b,[]=>b
 |b,x::r=>TJ (b&&x) r
theorem Gq:∀{b:aC} {l:ae aC},b=true->l.all id=true->TJ b l=true
 |_,[]=>λ h aa=>h
 |b,x::r=>λ h k=>Gq (b:=b&&x) (l:=r) (bN.mpr ⟨h,(aF k).1⟩) (aF k).2
def rx(p:aK):{x:aC×ae aC // PySem.W.Fast.tw10261682018367036896 p=TJ x.1 x.2}:=⟨(_,[_,_,_,_,_,_,_,_,_,_,_,_,_,_,_,_,_,_,_,_,_,_,_,_,_,_,_,_,_,_,_,_,_,_,_,_,_,_,_]),rfl⟩
theorem Nh:((rx w_).1.1&&((rx w_).1.2.take 3).all id)=true:=by kernel_rfl
theorem VQ:(((rx w_).1.2.drop 3).take 1).all id=true:=by kernel_rfl
theorem VS:(((rx w_).1.2.drop 4).take 1).all id=true:=by kernel_rfl
theorem VT:((rx w_).1.2.drop 5).all id=true:=by kernel_rfl
theorem Ni:wellP w_=true:=by
 rw[PySem.W.Fast.te10261682018367036896]
 refine(rx w_).2.trans (Gq (aF Nh).1 ?_)
 show((rx w_).1.2.take 3++(((rx w_).1.2.drop 3).take 1++(((rx w_).1.2.drop 4).take 1++(rx w_).1.2.drop 5))).all id=true
 rw[j5,j5,j5,(aF Nh).2,VQ,VS,VT]
 rfl
end Mine
set_option maxHeartbeats 0
namespace Mine
theorem Qz:dM∉Ix:=by decide+kernel
theorem MV:(rj w_).row.toRowW.promised:=⟨[.list []],by rfl,by rfl⟩
theorem Q3(VP:(rj w_).row.wellSaid=true):(rj w_).row.Holds:=
 I0 Qz Mi (by decide+kernel) (by decide+kernel) ⟨rfl,rfl,rfl,rfl,rfl,by decide+kernel⟩ (by rfl) (by rfl) (by rfl) MV VP
theorem Qh:(rj w_).Holds:=holds_law Ni Q3
end Mine
end
theorem PySem.Challenge.cw_nz0260_01_holds : PySem.Challenge.rw_nz0260_01.Holds :=
 Mine.Qh
