import PyProof.Rows.All
import Wide.All
import KE.BytesMake
import KE.IntBitsLaws
import KE.KDictList
import KE.KDictOf
import KE.KDictSum
import KE.KEqDict
import KE.KLam
import KE.KNest
import Open.FastT9
import Open.Line
import OpenK.KCall
import OpenK.KCls
import OpenK.KGet
import OpenK.KLine
import OpenK.KMake
import OpenK.KWalk
import OpenK.Peek
import OpenK.TopRead
import OpenK.XSeg
import Wide.FinOn
import Lean
import PySem.Challenge.RW_nz0260_01
-- Joined from the texts of wip/ and shortened by the programs of wip/tools (join2, minify, squeeze): the same declarations under shorter names.
open And renaming imp_right→iN,intro→vK,left→eG,right→f_
open Array renaming any_toList→uJ,getElem?_eq_getElem→e6,getElem?_eq_none→Bk,getElem?_toList→bP,length_toList→bh,mem_toList_iff→gK,toArray_toList→D0,toList_append→mr,toList_inj→uK,toList_push→Jr,toList_setIfInBounds→xK,toList→pt
open Bool renaming and_eq_true_iff→bN,and_eq_true→jg,and_false→m7,false_eq_true→te,false_ne_true→aW,noConfusion→ay,not_true→iK,or_eq_true_iff→g8
open Classical renaming em→d5
open Decidable renaming em→nX
open Exists renaming elim→aD,imp→cQ,intro→i5
open ForInStep renaming yield→oz
open Int renaming add_le_add→rz,add_one_le_of_lt→H0,ediv_lt_of_lt_mul→FQ,ediv_nonneg→xL,emod_lt_of_pos→ke,emod_nonneg→mw,eq_ofNat_of_zero_le→pu,fdiv_eq_ediv_of_nonneg→i9,fmod_eq_emod_of_nonneg→i_,le_antisymm→e7,le_max_left→qn,le_max_right→pw,le_of_eq→dX,le_of_lt_add_one→H1,le_of_lt→eW,le_refl→dT,le_sub_one_of_lt→ja,le_trans→aO,lt_iff_le_and_ne→H4,lt_of_le_of_lt→gB,lt_of_lt_of_le→kh,lt_or_eq_of_le→th,lt_trans→dr,min_le_left→qo,min_le_right→px,mul_le_mul_of_nonneg_left→fE,mul_le_mul_of_nonneg_right→dY,mul_lt_mul_of_pos_right→yn,mul_nonneg→rA,mul_one→rB,natAbs_of_nonneg→me,natCast_nonneg→kj,ne_of_gt→jl,neg_le_neg→np,not_lt→gX,ofNat_le→pL,ofNat_lt→mV,ofNat_natAbs_of_nonpos→nt,pow_pos→xA,sub_le_sub_right→H5,sub_nonneg_of_le→mf,toNat_lt→mW,toNat_of_nonneg→sp,toNat→gQ
open List renaming all_append→jY,all_eq_true→aY,append_assoc→gR,append_nil→bS,cons_ne_nil→lM,cons→pa,contains_iff_mem→D1,drop_eq_nil_iff→FS,drop→jh,filterMap_cons_some→jT,find?_cons→xC,foldl→Js,forIn_cons→xD,forall_mem_cons→aJ,getD_eq_getElem?_getD→gj,getElem?_append_left→dD,getElem?_append_right→eP,getElem?_concat_length→xM,getElem?_eq_getElem→d9,getElem?_eq_none_iff→nS,getElem?_eq_none→e8,getElem?_eq_some_iff→jm,getElem?_inj→nY,getElem?_map→eQ,getElem?_of_mem→l4,getElem?_toArray→qq,getLast?_eq_getElem?→nT,getLast?_eq_none_iff→zx,getLastD_eq_getLast?→nU,head_eq_of_cons_eq→Bl,isEmpty_iff→u8,length_append→bj,length_dropLast→FU,length_eq_one_iff→DQ,length_eq_zero_iff→cZ,length_map→bL,length_pos_iff→fS,length_range'→Jq,length_set→iI,length→fZ,lookup_cons→f5,lookup→FV,map_congr_left→sk,map_cons→A1,map_fst_zip→hF,map_inj_left→iP,map_map→t4,mem_append_left→dA,mem_append_right→cD,mem_append→fQ,mem_cons_of_mem→aP,mem_cons_self→aR,mem_cons→bQ,mem_filterMap→Jt,mem_flatMap→u9,mem_map_of_mem→g9,mem_map→dN,mem_of_getElem?→dB,mem_of_mem_drop→FW,mem_of_mem_take→FX,mem_range→q7,mem_reverse→u_,mem_singleton→be,nodup_append→gS,nodup_cons→dU,nodup_nil→gA,not_mem_nil→bK,pairwise_cons→Ju,pairwise_singleton→pb,range'→fY,range→eA,rec→l5,replicate→eR,size_toArray→cT,tail_eq_of_cons_eq→Bn
open List.cons renaming inj→qp
open Nat renaming add_le_add_left→hH,add_le_add_right→fF,add_lt_add_right→rC,add_right_comm→cV,add_sub_cancel_left→hO,add_sub_of_le→uL,beq_refl→uM,beq→a_,ble_eq_true_of_le→c6,ble→bB,blt→fu,decEq→jn,eq_of_beq_eq_true→aL,le_add_right→bq,le_of_ble_eq_true→aQ,le_of_eq→aU,le_of_lt→eX,le_of_succ_le_succ→k_,le_refl→cF,le_succ_of_le→uN,le_succ→xE,le_trans→aG,lt_add_of_pos_right→DR,lt_irrefl→fw,lt_of_le_of_lt→aT,lt_of_lt_of_eq→io,lt_of_lt_of_le→fj,lt_of_succ_lt_succ→iq,lt_or_ge→D3,lt_succ_self→jo,lt_trans→b_,mul_le_mul_left→jE,mul_le_mul_right→H6,ne_of_beq_eq_false→pM,ne_of_gt→uO,ne_of_lt→dO,not_lt_zero→mx,not_succ_le_zero→jc,one_mul→H7,pow_le_pow_right→rD,rec→D4,strongRecOn→xN,succ_add_eq_add_succ→oE,succ_le_succ→eH,succ_lt_succ→ge,succ_ne_zero→cy,succ_pos→uP,succ_pred_eq_of_pos→DS,succ→rE,zero_add→fy,zero_le→oA,zero_lt_succ→py
open Nat.succ renaming inj→eJ
open Option renaming bind_some→lu,isNone_iff_eq_none→jd,isSome_iff_exists→jv,map_eq_some_iff→eK,map→ed,or_eq_some_iff→Bo,some→af
open Option.some renaming inj→am
open Prod renaming snd→pd
open Prod.mk renaming inj→cU
open PyProof renaming noPylong_small→oF
open PyProof.Rows renaming subscriptTail→kR
open PyProof.Rows.F renaming entry_set_update_loop→oB,plain_set_update_loop→iJ
open PySem renaming Addr→au,Arguments→qJ,Around→bn,BindsTo→mS,Builtin→b8,CmpOp→j7,Code→vL,Comprehension→i6,DictEntry→bf,Expr→aB,Flow→my,FuncData→dR,GenState→d7,IntMulOk→jF,IsRangeIter→A4,Model→ir,NameKind→dJ,Operator→cH,Pos→c9,Program→aK,Result→iQ,Scope→qK,Sem→ie,Shared→ar,Slot→Bq,Stmt→f0,Str→bI,Tok→kq,Value→ak,World→bw,again→qM,argsOk→hU,assignEach→jG,assignInOrder→gE,behindInMarks→pN,binaryOp→kS,bindName→mX,bm_if_false→A6,builtinLookup_eq_fast→aZ,builtinType_eq_fast→uR,builtinsNs→la,cLine→qN,callAny→DY,callEnvC→eD,callType_codes→D7,callerA→t6,checkBuiltinCall→iw,clipAt→mz,closureFor→D8,codeAny_builtin→k5,codeAny_of_tree→Bs,compTurn→mY,compareOp→dz,comprehension→rH,constantsAlone→tj,entryFor_alias→D9,entryFor_of_tree→eM,entryFor→fA,firstArgMember→jH,foldedForSure→mU,foldedSetIterable→ef,getMethod_builtin→pJ,getMethod→fG,importedModules→Bt,inplaceOp→mA,intBits_le_64→pO,intBits_le_iff→tt,intKind_is→vP,intKind→cE,int_index→Jz,interactive→A7,isInstance→rI,isSubtype_stop→D_,isSubtype_type→cj,isTrue→kU,letOwnedTupleGo→dy,letTemporaryGo→iy,mainGlobals→dk,markedBehindIn_of_false→JA,model→aE,newExc→Ea,noteFrame→qO,operate→DZ,outcomeOf→t7,plainId_quiet→kV,pyIter→iz,pyNext→gL,rawInt→nC,recursionLimit→tu,relabel→rK,seqIndex?→j5,setAddHashed→rM,setAttr→xP,setItem→eT,sizeLine_eq→dZ,sizeLine→gh,slot_list_getitem→A8,specialOf→t8,standAt→dp,starEach→fB,storeName→t9,stored→tv,swappedStores→i7,swapsWithSole→H9,swapsWith→oD,sysModules→di,theTreesLotGoes→k6,tupleKind→g7,typeIs_int→mB,typeLookup_type→bF,typeLookup→hV,typeOf→rN,unsupported→A9,withoutEnding?→Eb,wpAny_askSetting→iA,wpAny_assign_Name→xQ,wpAny_attempt→kW,wpAny_bind→aj,wpAny_callSpecial?_slot→de,wpAny_call_entry→cA,wpAny_call→vQ,wpAny_dictEntries→eh,wpAny_dictEpoch→nF,wpAny_fieldsOf→Ec,wpAny_holding→bU,wpAny_isInstance→eO,wpAny_ite_split→Bu,wpAny_items_nil→Bv,wpAny_list_append_plain→JB,wpAny_load→iR,wpAny_mkInt→lx,wpAny_mono→c7,wpAny_newFunctionEnv_cells→Ed,wpAny_newObj_type→cP,wpAny_notOrdered_dict→ms,wpAny_of_eq→bu,wpAny_point→A_,wpAny_pure→aw,wpAny_pyIter_list→xR,wpAny_pyIter_slot→xS,wpAny_pyNext_range_item→JC,wpAny_release→H_,wpAny_rule→mC,wpAny_sequenceKey→lN,wpAny_setEntries_of→uS,wpAny_setField→oG,wpAny_setState_of→lO,wpAny_specialOf→cX,wpAny_standAt→hW,wpAny_truthy_bool→pK,wpAny_typeNameOfWhole_keyiter→iO,wpAny_typeNameOf_keyiter→pP,wpAny_typeOf→j6,wpAny→aH
open PySem.Around renaming under_plainId→eB
open PySem.BindsTo renaming of_defaults→DT
open PySem.BoolOp renaming And→FY,Or→Jv
open PySem.Calls renaming call_function_entry→ny
open PySem.Challenge renaming pw_nz0260_01→gT
open PySem.Code renaming builtin→DU,quiet_builtin→Jw
open PySem.Data renaming fields→ib,seq→t5
open PySem.Expr renaming Name→D5
open PySem.F renaming called_set→rF,entry_dict_get→zy,plain_set_new→A2,slot_dict_get→pA,slot_dict_ne→Bp,slot_set_iter→A3
open PySem.FuncBody renaming stmts→fX
open PySem.Heap renaming ExtBut→vM,SameBut→kZ,get?_none_of_le→df,get?_push_of_some→aA,get?_push_size→aN,get?_update_other→DV,get?_update_self→dK,lt_size→b9
open PySem.Heap.SameBut renaming refl→qr,update→dF
open PySem.IntMulOk renaming of_left→FZ,of_le→Jx,of_right→j8
open PySem.Keeper renaming boundFrame→tf,frame→A5,machine→xF
open PySem.NameKind renaming free→xG
open PySem.PyData renaming keyHash→qt
open PySem.Sem renaming bind_eq_wrap'→iX,bind_eq_wrap→vN,onRaise_eq_wrap→Jy,wp_mono→oC,wrap_wrap→jZ
open PySem.Str renaming ofString→bT
open PySem.Value renaming bool→H8,int→eC,isInt→vd,none→c_,ref→du,str→mT,type→cR
open PySem.Value.ref renaming inj→vO
open PySem.W renaming Frag→eI,SharedT→jk,TopRead→nZ,absHeap→DX,dictOf→nz,emptyDict→qL,handedIn→xO,instObj→gC,sortI→nA,tabObj→ti,topRun→D6,typeIs_bytes→gF
open PySem.W.WShape renaming has→sm
open PySem.W.X renaming s_again→rG,wake_any→Br
open PySem.W.X.SegX renaming mono→ei
open PySem.callAny renaming viaDunder→F0
open PySem.pickOrder renaming go→rJ
open Std.Legacy.Range renaming forIn_eq_forIn_range'→m6
open UInt8 renaming ofNat→eE
open _root_ renaming Array→bD,Bool→aC,Decidable→fD,List→ae,Option→aq,String→cS,UInt8→bZ,Unit→e9,absurd→bt,beq_eq_false_iff_ne→d_,beq_iff_eq→a4,beq_self_eq_true→qP,bne_iff_ne→rO,bne_self_eq_false→lP,cond→aX,congrArg→ah,decEq→nV,decide_eq_false→dj,decide_eq_true_eq→cY,decide_eq_true→cz,if_neg→bC,if_pos→dq,of_decide_eq_false→oH,of_decide_eq_true→bg,reduceIte→zA
open PySem PySem.W PySem.Spec PySem.Calls PyProof.Rows
set_option Elab.async false
set_option linter.all false
set_option maxRecDepth 100000
set_option genCtorIdx false
set_option genInjectivity false
set_option genSizeOf false
noncomputable section
namespace Mine
noncomputable def nQ(p:qJ)(xs:ae bI):aC:=p.posonlyargs.isEmpty&&(p.vararg.isNone&&(p.kwonlyargs.isEmpty&&(p.kwarg.isNone&&(p.args.map (·.arg)==xs))))
noncomputable def az:ae bI->ae Arg->ae Arg
 |[],_=>[]
 |x::xs,l=>{l.headD ⟨x,none,default⟩ with arg:=x}::az xs l.tail
noncomputable def vz:ae bI->ae ak->ae ak
 |[],_=>[]
 |_::xs,l=>l.headD .none::vz xs l.tail
theorem Gl:∀l:ae Arg,l=az (l.map (·.arg)) l
 |[]=>rfl
 |⟨x,t,p⟩::l=>ah (Arg.mk x t p::·) (Gl l)
theorem vJ:∀{xs:ae bI} {l:ae ak},l.length=xs.length->l=vz xs l
 |[],[]=>λ aa=>rfl
 |_::_,[]=>λ h=>nomatch h
 |[],_::_=>λ h=>nomatch h
 |_::_,v::l=>λ h=>ah (v::·) (vJ (eJ h))
def pz(p:qJ)(xs:ae bI):qJ:={posonlyargs:=[],args:=az xs p.args,vararg:=none,kwonlyargs:=[],kw_defaults:=p.kw_defaults,kwarg:=none,defaults:=p.defaults}
theorem Zi{p:qJ}{xs:ae bI}(h:nQ p xs=true):p=pz p xs:=by
 obtain⟨a,b,c,d,e,f,g⟩:=p
 have h:=bN.mp h
 have h2:=bN.mp h.2
 have h3:=bN.mp h2.2
 have h4:=bN.mp h3.2
 obtain rfl:a=[]:=u8.mp h.1
 obtain rfl:c=none:=jd.mp h2.1
 obtain rfl:d=[]:=u8.mp h3.1
 obtain rfl:f=none:=jd.mp h4.1
 obtain rfl:b.map (·.arg)=xs:=a4.mp h4.2
 exact ah (λ b=>Arguments.mk [] b none [] e none g) (Gl b)
abbrev XW(fd:dR)(xs:ae bI)(d:ak):dR:={fd with params:=pz fd.params xs,defaults:=d}
theorem Ld{fd:dR}{xs:ae bI}{d:ak}(hp:nQ fd.params xs=true)(hd:fd.defaults=d):fd=XW fd xs d:=congr (ah (λ p d=>{fd with params:=p,defaults:=d}) (Zi hp)) hd
def RB(xs:ae bI):Prop:=∀(fd:dR) (vs:ae ak),bindArgs (XW fd xs .none) ⟨vz xs vs,[]⟩=pure (xs.zip (vz xs vs))
theorem uC{fd:dR}{xs:ae bI}(hb:RB xs)(hp:nQ fd.params xs=true)(hd:fd.defaults= .none)(s:ar)(vals:ae ak)(l:vals.length=xs.length):mS s fd ⟨vals,[]⟩ (xs.zip vals):=by
 have h:=hb fd vals
 rw[← vJ l,← Ld hp hd] at h
 exact .of_eq h
noncomputable def Nl:ae bI:=["self","many","state"]
theorem EJ{fd:dR}{T:au}{o:Obj}{n:Nat}{v:ak}(hp:nQ fd.params Nl=true)(hd:fd.defaults= .ref T)(s:ar)(ho:s.heap.get? T=af o)(hs:o.data= .seq #[v] n)
  (vals:ae ak) (l:vals.length=2):mS s fd ⟨vals,[]⟩ (Nl.zip (vals++[v])):=by
 rw[Ld hp hd,vJ (xs:=["self","many"]) l]
 exact DT (fd:=XW fd Nl (.ref T)) rfl ho hs rfl (by kernel_rfl)
theorem KU{fd:dR}{T:au}{o:Obj}{n:Nat}{v:ak}(hp:nQ fd.params Nl=true)(hd:fd.defaults= .ref T)(s:ar)(ho:s.heap.get? T=af o)(hs:o.data= .seq #[v] n)
  (vals:ae ak) (l:vals.length=3):mS s fd ⟨vals,[]⟩ (Nl.zip vals):=by
 rw[Ld hp hd,vJ (xs:=Nl) l]
 exact DT (fd:=XW fd Nl (.ref T)) rfl ho hs rfl (by kernel_rfl)
theorem sT{fd:dR}{xs:ae bI}(hb:RB xs)(hp:nQ fd.params xs=true)(hd:fd.defaults= .none)(s:ar)(vals:ae ak)(l:vals.length+0=xs.length):mS s fd ⟨vals,[]⟩ (xs.zip (vals++[])):=by
 rw[bS]; exact uC hb hp hd s vals l
noncomputable def YV(v:ak):aC:=match v with
 | .none=>true
 |_=>false
theorem Ms{v:ak}(h:YV v=true):v= .none:=by
 rcases v
 case none=>rfl
 all_goals exact ay h
noncomputable def rS:ae cS:=["bytearray.__contains__","bytearray.__mod__","bytearray.__rmod__","_struct.pack_into.held","bytearray.find.held"]++Builtin.Bytes.decodersThatHold
def C8:vL->aC
 | .builtin id _=>!rS.contains id
 |_=>true
def Cln(Γ:PySem.Ctx):Prop:=C8 Γ.code=true/\∀x∈Γ.below,C8 x.1=true
def cL{α:Type}(J:aC)(M:ir)(A:bn)(t:ie α)(Q:α->ar->Prop)(s:ar):Prop:=
 ∀Γ p,Γ.In A->(J=true->Cln Γ)->Sem.wp M Γ t (λ a aa s'=>Q a s') (λ aa aa aa=>False) p s
def dP(J:aC)(M:ir)(A:bn)(c:vL)(R:iQ->ar->Prop)(s:ar):Prop:=
 ∀Γ p,Γ.code=c->Γ.Below A->(J=true->Cln Γ)->wpCode M Γ R p s
namespace X
section
variable{α β:Type}{J:aC}{M:ir}{A:bn}{s:ar}{env:Env}
theorem any{t:ie α}{Q:α->ar->Prop}(h:aH M A t Q (λ aa aa=>False) s):cL J M A t Q s:=λ Γ p a aa=>h Γ p a
theorem back{t:ie α}{Q:α->ar->Prop}(h:cL false M A t Q s):aH M A t Q (λ aa aa=>False) s:=λ Γ p a=>h Γ p a (λ e=>(nomatch e))
theorem less{t:ie α}{Q:α->ar->Prop}(h:cL false M A t Q s):cL J M A t Q s:=any (back h)
theorem jt{t:ie α}{Q:α->ar->Prop}(j:J=true)(h:cL true M A t Q s):cL J M A t Q s:=j▸h
theorem mono{t:ie α}{Q Q':α->ar->Prop}(h:cL J M A t Q s)(hQ:∀a s,Q a s->Q' a s):cL J M A t Q' s:=
 λ Γ p a c=>oC M Γ t (λ a aa s=>hQ a s) (λ aa aa aa f=>f) p s (h Γ p a c)
theorem ret{a:α}{Q:α->ar->Prop}(h:Q a s):cL J M A (pure a) Q s:=λ aa aa aa aa=>h
theorem cM{m:ie α}{f:α->ie β}{Q:β->ar->Prop}(h:cL J M A m (λ a s'=>cL J M A (f a) Q s') s):cL J M A (m>>=f) Q s:=λ Γ p a c=>by
 rw[Sem.wp_bind']
 exact oC M Γ m (λ aa p' s' h'=>h' Γ p' a c) (λ aa aa aa h'=>h') p s (h Γ p a c)
theorem holds{vs:ae ak}{m:ie α}{Q:α->ar->Prop}(h:cL J M A m Q s):cL J M A (holding vs m) Q s:=λ Γ p a c=>by rw[Sem.wp_holding]; exact h Γ p a c
theorem I2{vs:ae ak}{m:ie ak}{Q:ak->ar->Prop}(h:cL J M A m Q s):cL J M A (DZ vs m) Q s:=λ Γ p a c=>by rw[Sem.wp_operate]; exact h Γ p a c
theorem raises{m:ie α}{k:ak->ie e9}{Q:α->ar->Prop}(h:cL J M A m Q s):cL J M A (m.onRaise k) Q s:=λ Γ p a c=>by
 rw[Sem.wp_onRaise]
 exact oC M Γ m (λ aa aa aa h'=>h') (λ aa aa aa f=>f.elim) p s (h Γ p a c)
theorem at_{pos:c9}{f:e9->ie β}{Q:β->ar->Prop}(h:cL J M A (f ()) Q s):cL J M A (dp pos>>=f) Q s:=cM (any (hW h))
theorem XF{t:ie α}{a:α}{Q:α->ar->Prop}(e:t=pure a)(h:Q a s):cL J M A t Q s:=by rw[e]; exact ret h
theorem drops{vs:ae ak}{keep:ae ak}{f:e9->ie β}{Q:β->ar->Prop}(h:cL J M A (f ()) Q s):cL J M A (release vs keep>>=f) Q s:=cM (any (H_ h))
theorem uj{Γ:PySem.Ctx}{c:vL}{h:aq ak}{p:c9}(ok:C8 c=true)(x:J=true->Cln Γ):J=true->Cln (Γ.enter c h p):=λ j=>by
 obtain⟨a,b⟩:=x j
 exact⟨ok,λ y hy=>by
  rcases bQ.mp hy with rfl|hy
  ·exact a
  ·exact b y hy⟩
theorem runs{c:vL}{h:aq ak}{Q:my->ar->Prop}(ok:C8 c=true)
  (hc:dP J M (A.mark h) c (λ r s'=>match r with | .ok f=>Q f s' | .error _=>False) s) (hnb:h≠af byPass:=by nofun):cL J M A (run c h) Q s:=λ Γ p a x=>by
 rw[Sem.wp_run]
 have:=hc (Γ.enter c h p) p rfl (a.enter c h p hnb) (uj ok x)
 exact this
theorem Zs{c:vL}{Q:ak->ar->Prop}(ok:C8 c=true)
  (hc:dP J M A c (λ r s'=>match r with | .ok (.ret v)=>Q v s'|_=>False) s):cL J M A (runValue c) Q s:=λ Γ p a x=>by
 rw[Sem.wp_runValue]
 have h:=hc (Γ.enter c none p) p rfl (a.enter c none p (by intro x; cases x)) (uj ok x)
 exact wpCode_mono (λ r s' z=>by rcases r with _|(_|_|_|_)<;>exact z) h
theorem calls{f:ak}{pos:ae ak}{kw:ae (bI×ak)}{Q:ak->ar->Prop}
  (hc:dP J M A (.call f ⟨pos,kw⟩) (λ r s'=>match r with | .ok (.ret v)=>Q v s'|_=>False) s):cL J M A (call f pos kw) Q s:=Zs rfl hc
theorem BZ{c:vL}{R:iQ->ar->Prop}(h:codeAny M A c R s):dP J M A c R s:=λ Γ p e b aa=>h Γ p e b
theorem Iy{c:vL}{R:iQ->ar->Prop}(h:dP false M A c R s):codeAny M A c R s:=λ Γ p e b=>h Γ p e b (λ e=>(nomatch e))
theorem el{c:vL}{R R':iQ->ar->Prop}(h:dP J M A c R s)(hR:∀r s,R r s->R' r s):dP J M A c R' s:=
 λ Γ p e b x=>wpCode_mono hR (h Γ p e b x)
theorem tree{c:vL}{R:iQ->ar->Prop}
  (h:cL J M (A.under c) (M.den c) (λ fin s'=>match fin with | .done f=>R (.ok f) s' | .again c'=>c'.quiet=true/\C8 c'=true/\dP J M A c' R s') s):dP J M A c R s:=λ Γ p hc N4 x=>by
 rw[wpCode_iff_wp,hc]
 refine oC M Γ _ (λ fin p' s' h'=>?_) (λ aa aa aa h'=>h'.elim) p s (h Γ p (hc▸N4.in) x)
 cases fin with
 |done f=>exact h'
 |again c'=>exact⟨h'.1,h'.2.2 (Γ.goto c') p' rfl (N4.goto c') λ j=>⟨h'.2.1,(x j).2⟩⟩
theorem BinOp{l op r pos}{Q:ak->ar->Prop}
  (h:cL J M A (eval l env) (λ a s₁=>cL J M A (eval r env) (λ b bp=>cL J M A (kS op a b) Q bp) s₁) s):cL J M A (eval (.BinOp l op r pos) env) Q s:=by
 rw[eval_BinOp]
 exact cM (mono h λ a s₁ bH=>cM (holds (mono bH λ b bp cW=>at_ (I2 cW))))
theorem Bz{l op r pos}{Q:ak->ar->Prop}(hm:pN op r=false)
  (h:cL J M A (eval l env) (λ a s₁=>cL J M A (eval r env) (λ b bp=>cL J M A (dz op a b) Q bp) s₁) s):cL J M A (eval (.Compare l [op] [r] pos) env) Q s:=by
 rw[eval_Compare1,JA hm]
 exact cM (mono h λ a s₁ bH=>cM (holds (mono bH λ b bp cW=>at_ (I2 cW))))
theorem isTrue_Compare1{l op r pos whole}{Q:aC->ar->Prop}(hm:pN op r=false)
  (h:cL J M A (eval l env) (λ a s₁=>cL J M A (eval r env) (λ b bp=>cL J M A (dz op a b) (λ c fW=>cL J M A (truthy c) Q fW) bp) s₁) s):
  cL J M A (isTrue (.Compare l [op] [r] pos) env whole) Q s:=by
 rw[PySem.isTrue_Compare1,JA hm]
 exact cM (mono h λ a s₁ bH=>cM (holds (mono bH λ b bp cW=>at_ (cM (I2 (mono cW λ c fW fH=>holds fH))))))
theorem Ag{e:aB}{whole:ie ak}{Q:aC->ar->Prop}(he:isTrue e env whole=(do let v ← whole; dp e.pos; holding [v] (truthy v)))
  (h:cL J M A whole (λ v s₁=>cL J M A (truthy v) Q s₁) s):cL J M A (isTrue e env whole) Q s:=by
 rw[he]
 exact cM (mono h λ v s₁ bH=>at_ (holds bH))
theorem EY{x:aB}{pos:c9}{whole:ie ak}{Q:aC->ar->Prop}(h:cL J M A (isTrue x env (eval x env)) (λ b s₁=>Q (!b) s₁) s):
  cL J M A (isTrue (.UnaryOp .Not x pos) env whole) Q s:=by
 rw[arm_isTrue_UnaryOp]
 exact cM (mono h λ b s₁ bH=>ret bH)
theorem U7{op:UnaryOp}{x:aB}{pos:c9}{Q:ak->ar->Prop}(h:cL J M A (eval x env) (λ v s₁=>cL J M A (unaryOp op v) Q s₁) s):
  cL J M A (eval (.UnaryOp op x pos) env) Q s:=by
 rw[arm_eval_UnaryOp]
 exact cM (mono h λ v s₁ bH=>at_ (holds bH))
theorem IfExp{t a b:aB}{pos:c9}{Q:ak->ar->Prop}
  (h:cL J M A (isTrue t env (eval t env)) (λ c s₁=>aX c (cL J M A (eval a env) Q s₁) (cL J M A (eval b env) Q s₁)) s):cL J M A (eval (.IfExp t a b pos) env) Q s:=by
 rw[arm_eval_IfExp]
 exact cM (mono h λ c s₁ bH=>by cases c<;>exact bH)
theorem If{t pos}{a b:ae f0}{Q:my->ar->Prop}
  (h:cL J M A (isTrue t env (eval t env)) (λ c s₁=>aX c (cL J M A (execs a env) Q s₁) (cL J M A (execs b env) Q s₁)) s):cL J M A (exec (.If t a b pos) env) Q s:=by
 rw[exec_If]
 exact at_ (cM (mono h λ c s₁ bH=>by cases c<;>exact bH))
theorem ll{pos:c9}{e:aB}{rest:ae aB}{Q:ae ak->ar->Prop}(he:fB (e::rest) env=(false,eval e env)::fB rest env)
  (h:cL J M A (eval e env) (λ v s₁=>cL J M A (spliced (backTo pos (fB rest env))) (λ vs bp=>Q (v::vs) bp) s₁) s):cL J M A (spliced (backTo pos (fB (e::rest) env))) Q s:=by
 rw[he]
 show cL J M A (do
  let v ← eval e env
  let here ← (pure [v]:ie (ae ak))
  return here++(← holding here (spliced (backTo pos (fB rest env))))) Q s
 exact cM (mono h λ v s₁ bH=>cM (ret (cM (holds (mono bH λ vs bp cW=>ret cW)))))
theorem Mn{es:ae aB}{k:Nat}{pos:c9}{Q:ak->ar->Prop}
  (h:cL J M A (spliced (backTo pos (fB es env))) (λ vs s₁=>vs.length<=gh/\Q (.ref s₁.heap.objs.size) {s₁ with heap:=s₁.heap.push {cls:= .type "tuple",data:= .seq vs.toArray}}) s):
  cL J M A (eval (.Tuple es k pos) env) Q s:=by
 rw[arm_eval_Tuple]
 exact at_ (cM (mono h λ vs s₁ bH=>any (cP bH.2 (by show vs.toArray.size<=gh; rw[cT]; exact bH.1))))
theorem nList{es:ae aB}{pos:c9}{Q:ak->ar->Prop}
  (h:cL J M A (spliced (backTo pos (fB es env))) (λ vs s₁=>vs.length<=gh/\Q (.ref s₁.heap.objs.size) {s₁ with heap:=s₁.heap.push {cls:= .type "list",data:= .seq vs.toArray}}) s):
  cL J M A (eval (.List es pos) env) Q s:=by
 rw[arm_eval_List]
 exact at_ (cM (mono h λ vs s₁ bH=>any (cP bH.2 (by show vs.toArray.size<=gh; rw[cT]; exact bH.1))))
theorem uf{e pos}{Q:my->ar->Prop}(h:cL J M A (eval e env) (λ v=>Q (.ret v)) s):cL J M A (exec (.Return (af e) pos) env) Q s:=by
 rw[exec_Return_some]
 exact at_ (cM (mono h λ v s₁ bH=>ret bH))
theorem Bw{x pos' value pos}{Q:my->ar->Prop}(hs:oD value (af (.Name x pos')) pos.line env=pure false)
  (h:cL J M A (eval value env) (λ v s₁=>cL J M A (t9 env x v) (λ aa=>Q .next) s₁) s):cL J M A (exec (.Assign [.Name x pos'] value pos) env) Q s:=by
 rw[exec_Assign_Name env x pos' value pos hs]
 exact at_ (cM (mono h λ v s₁ bH=>at_ (cM (λ Γ p a c=>by rw[Sem.wp_bindName]; exact(mono bH λ aa bp cW=>ret cW) Γ p a c))))
theorem vT{x pos' op value pos}{Q:my->ar->Prop}
  (h:cL J M A (loadName env x) (λ old s₁=>cL J M A (eval value env) (λ v bp=>cL J M A (mA op old v) (λ r fW=>cL J M A (t9 env x r) (λ aa=>Q .next) fW) bp) s₁) s):
  cL J M A (exec (.AugAssign (.Name x pos') op value pos) env) Q s:=by
 rw[exec_AugAssign_Name]
 exact at_ (cM (mono h λ old s₁ bH=>cM (holds (mono bH λ v bp cW=>at_ (cM (I2 (mono cW λ r fW fH=>at_ (cM (λ Γ p a c=>by
  rw[Sem.wp_bindName]; exact(mono fH λ aa bp cW=>ret cW) Γ p a c)))))))))
theorem tx{o attr pos' value pos}{Q:my->ar->Prop}(hs:oD value (af (.Attribute o attr pos')) pos.line env=pure false)
  (h:cL J M A (eval value env) (λ v s₁=>cL J M A (eval o env) (λ ov bp=>cL J M A (xP ov attr v) (λ aa=>Q .next) bp) s₁) s):
  cL J M A (exec (.Assign [.Attribute o attr pos'] value pos) env) Q s:=by
 rw[plainObj_exec_Assign_Attribute o attr pos' value pos hs]
 refine at_ (cM (mono h λ v s₁ bH=>?_))
 rw[assign_Attribute]
 exact cM (cM (holds (mono bH λ ov bp cW=>at_ (cM (holds (mono cW λ aa fW fH=>any (H_ (ret fH))))))))
theorem qQ{o value:aB}{attr:bI}{AU pos:c9}{op:cH}{Q:my->ar->Prop}
  (h:cL J M A (eval o env) (λ ov s₁=>cL J M A (getAttr ov attr true) (λ old bp=>cL J M A (eval value env) (λ v fW=>cL J M A (mA op old v) (λ new s7=>
      cL J M A (xP ov attr new) (λ aa=>Q .next) s7) fW) bp) s₁) s):cL J M A (exec (.AugAssign (.Attribute o attr AU) op value pos) env) Q s:=by
 have e:exec (.AugAssign (.Attribute o attr AU) op value pos) env=(do
   dp pos
   let ov ← eval o env
   let new ← holding [ov] do
    dp AU.atName
    let old ← getAttr ov attr true
    let v ← holding [old] (eval value env)
    dp pos
    DZ [old,v] (mA op old v)
   dp AU.atName
   holding [new,ov] (xP ov attr new)
   release [new,ov] []
   pure .next):=rfl
 rw[e]
 exact at_ (cM (mono h λ ov s₁ bH=>cM (holds (at_ (cM (mono bH λ old bp cW=>cM (holds (mono cW λ v fW fH=>at_ (I2 (mono fH λ new s7 nN=>at_ (cM (holds (mono nN λ aa Rb CA=>drops (ret CA))))))))))))))
end
end X
namespace X
section
variable{α β:Type}{J:aC}{M:ir}{A:bn}{s:ar}{env:Env}
theorem execs_cons{st rest}{Q:my->ar->Prop}(h:cL J M A (exec st env) (λ f s'=>match f with | .next=>cL J M A (execs rest env) Q s'|f=>Q f s') s):
  cL J M A (execs (st::rest) env) Q s:=by
 rw[PySem.execs_cons]
 exact cM (mono h λ f s₁ bH=>by cases f<;>first|exact bH|exact ret bH)
theorem While{t b pos}{Q:my->ar->Prop}(h:dP J M A (.whileLoop t b [] env) (λ r s'=>match r with | .ok f=>Q f s' | .error _=>False) s):
  cL J M A (exec (.While t b [] pos) env) Q s:=by
 rw[exec_While]
 exact at_ (raises (runs rfl h))
theorem For{t it b pos}{Q:my->ar->Prop}(hs:∀x,ef it env x=pure x)
  (h:cL J M A (eval it env) (λ x s₁=>cL J M A (iz x) (λ i bp=>dP J M A (.forLoop t i b [] env) (λ r s'=>match r with | .ok f=>Q f s' | .error _=>False) bp) s₁) s):
  cL J M A (exec (.For t it b [] pos) env) Q s:=by
 rw[exec_For]
 exact at_ (cM (mono h λ x s₁ bH=>cM (XF (hs x) (at_ (cM (holds (mono bH λ i bp cW=>raises (runs rfl cW))))))))
theorem keeps{vs:ae ak}{m:ie α}{Q:α->ar->Prop}(h:cL J M A m Q s):cL J M A (m.keep vs) Q s:=λ Γ p a c=>by rw[Sem.wp_keep]; exact h Γ p a c
theorem T6{f:ak}{args:ae (aC×ie ak)}{Q:Args->ar->Prop}(hp:args.any (·.1)=false)(h:cL J M A (spliced args) (λ vs s'=>Q ⟨vs,[]⟩ s') s):
  cL J M A (evalArgs f true args []) Q s:=by
 match args,hp with
 |[],_=>
  unfold evalArgs
  show cL J M A (spliced []>>=_) Q s
  refine cM (mono h λ vs s₁ bH=>cM (ret ?_))
  refine holds ?_
  exact cM (ret (cM (ret (ret bH))))
 |(false,x)::r,_=>
  unfold evalArgs
  show cL J M A (spliced ((false,x)::r)>>=_) Q s
  refine cM (mono h λ vs s₁ bH=>?_)
  refine holds ?_
  exact cM (ret (cM (ret (ret bH))))
theorem ui{pos:c9}{f:ak}{first:ae ak}{args:ae (aC×ie ak)}{Q:ak->ar->Prop}{Pm:Heap->Prop}(hp:args.any (·.1)=false)
  (hk:∀h,Pm h->∃k,(k=A5\/k=xF\/k=tf)/\Looks M h (keeperOf f) k)
  (h:cL J M A (spliced args) (λ vs s₁=>Pm s₁.heap/\cL J M A (call f (first++vs) []) Q s₁) s):cL J M A (callWith pos f first args []) Q s:=by
 unfold callWith
 refine cM (holds (T6 hp (mono h λ vs s₁ bH=>at_ ?_)))
 obtain⟨k,hk',L⟩:=hk _ bH.1
 have hp2:(args.any (·.1)||([]:ae (aq bI×ie ak)).any (·.1.isNone))=false:=by rw[hp]; rfl
 rw[hp2]
 dsimp only
 refine cM (any (L.here ?_))
 have tail:∀{t:ie ak},cL J M A t Q s₁->cL J M A (t>>=λ r=>holding [r] point>>=λ aa=>pure r) Q s₁:=
  λ ht=>cM (mono ht λ r bp hr=>cM (holds (any (A_ (ret hr)))))
 have marked (mk:ak):cL J M A (callMarked mk f (first++vs) []) Q s₁:=by unfold callMarked; exact keeps bH.2
 rcases hk' with rfl|rfl|rfl<;>dsimp only<;>first|exact tail bH.2|(split<;>first|exact tail bH.2|exact tail (marked _))
theorem pX{id:bI}{p pos:c9}{args:ae aB}{Q:ak->ar->Prop}
  (h:cL J M A (eval (.Name id p) env) (λ f s₁=>cL J M A (callWith pos f [] (backTo pos (fB args env)) []) Q s₁) s):cL J M A (eval (.Call (.Name id p) args [] pos) env) Q s:=by
 rw[arm_eval_Call_Name']
 exact cM (mono h λ aa aa z=>z)
theorem BW{o:aB}{name:bI}{apos pos:c9}{args:ae aB}{pl:ie aC}{Q:ak->ar->Prop}
  (he:eval (.Call (.Attribute o name apos) args [] pos) env=(do
   let ov ← eval o env
   dp apos.atName
   let (f,first) ← holding [ov] (fG ov name pl)
   callWith pos f first (backTo pos (fB args env)) []))
  (h:cL J M A (eval o env) (λ ov s₁=>cL J M A (fG ov name pl) (λ fx bp=>cL J M A (callWith pos fx.1 fx.2 (backTo pos (fB args env)) []) Q bp) s₁) s):
  cL J M A (eval (.Call (.Attribute o name apos) args [] pos) env) Q s:=by
 rw[he]
 exact cM (mono h λ ov s₁ bH=>at_ (cM (holds (mono bH λ fx bp cW=>cW))))
theorem Attribute{o:aB}{attr:bI}{pos:c9}{Q:ak->ar->Prop}
  (he:eval (.Attribute o attr pos) env=(do
   let v ← eval o env
   dp pos.atName
   let r ← holding [v] (getAttr v attr true)
   iy o v r
   pure r))
  (h:cL J M A (eval o env) (λ v s₁=>cL J M A (getAttr v attr true) Q s₁) s) (hl:∀v r (Q:e9->ar->Prop) s,Q () s->aH M A (iy o v r) Q (λ aa aa=>False) s):cL J M A (eval (.Attribute o attr pos) env) Q s:=by
 rw[he]
 exact cM (mono h λ v s₁ bH=>at_ (cM (holds (mono bH λ r bp cW=>cM (any (hl v r _ _ (ret cW)))))))
theorem Subscript{o i:aB}{pos:c9}{Q:ak->ar->Prop}
  (h:cL J M A (eval o env) (λ v s₁=>cL J M A (eval i env) (λ j bp=>cL J M A (kR o i v j) Q bp) s₁) s):cL J M A (eval (.Subscript o i pos) env) Q s:=by
 rw[eval_Subscript]
 exact cM (mono h λ v s₁ bH=>cM (holds (mono bH λ j bp cW=>at_ cW)))
theorem ty{o i:aB}{pos':c9}{value:aB}{pos:c9}{Q:my->ar->Prop}(hs:oD value (af (.Subscript o i pos')) pos.line env=pure false)
  (h:cL J M A (eval value env) (λ v s₁=>cL J M A (eval o env) (λ ov bp=>cL J M A (eval i env) (λ iv fW=>cL J M A (eT ov iv v) (λ aa=>Q .next) fW) bp) s₁) s):
  cL J M A (exec (.Assign [.Subscript o i pos'] value pos) env) Q s:=by
 rw[exec_Assign_Subscript o i pos' value pos hs]
 refine at_ (cM (mono h λ v s₁ bH=>?_))
 rw[assign_Subscript]
 exact cM (cM (holds (mono bH λ ov bp cW=>cM (holds (mono cW λ iv fW fH=>at_ (cM (holds (mono fH λ aa s7 nN=>any (H_ (ret nN))))))))))
theorem qR{o i value:aB}{AU pos:c9}{op:cH}{Q:my->ar->Prop}
  (hi:∀ov iv new,augStore i ov iv new=(do holding [new,ov,iv] (eT ov iv new); release [new,ov,iv] []; pure .next))
  (h:cL J M A (eval o env) (λ ov s₁=>cL J M A (eval i env) (λ iv bp=>cL J M A (getItem ov iv) (λ old fW=>cL J M A (eval value env) (λ v s7=>cL J M A (mA op old v) (λ new Rb=>
      cL J M A (eT ov iv new) (λ aa=>Q .next) Rb) s7) fW) bp) s₁) s):cL J M A (exec (.AugAssign (.Subscript o i AU) op value pos) env) Q s:=by
 have e:exec (.AugAssign (.Subscript o i AU) op value pos) env=(do
   dp pos
   let ov ← eval o env
   let iv ← holding [ov] (eval i env)
   let new ← holding [ov,iv] do
    dp AU
    let old ← getItem ov iv
    let v ← holding [old] (eval value env)
    dp pos
    DZ [old,v] (mA op old v)
   dp AU
   augStore i ov iv new):=rfl
 rw[e]
 refine at_ (cM (mono h λ ov s₁ bH=>cM (holds (mono bH λ iv bp cW=>cM (holds (at_ (cM (mono cW λ old fW fH=>cM (holds (mono fH λ v s7 nN=>at_ (I2 (mono nN λ new Rb CA=>at_ ?_))))))))))))
 rw[hi]
 exact cM (holds (mono CA λ aa agK acf=>drops (ret acf)))
theorem xT{targets:ae aB}{value:aB}{pos:c9}{Q:my->ar->Prop}(hs:H9 targets value pos.line env=pure false)(hw:i7 targets value env=pure none)
  (h:cL J M A (eval value env) (λ v s₁=>cL J M A (assignAll v ((jG targets env).map (·.2))) (λ aa=>Q .next) s₁) s):cL J M A (exec (.Assign targets value pos) env) Q s:=by
 rw[exec_Assign_arm]
 refine at_ ?_
 rw[hs]
 refine cM (ret ?_)
 rw[bC (by decide)]
 refine cM (mono h λ v s₁ bH=>?_)
 rw[hw]
 exact cM (ret (cM (mono bH λ aa aa z=>ret z)))
theorem vR{targets:ae aB}{value:aB}{pos:c9}{names:ae bI}{Q:my->ar->Prop}(hs:H9 targets value pos.line env=pure false)(hw:i7 targets value env=pure (af names))
  (h:cL J M A (eval value env) (λ v s₁=>cL J M A (unpackItems v names.length none) (λ items bp=>cL J M A (gE (names.reverse.map λ n=>mX env n) items.reverse) (λ aa=>Q .next) bp) s₁) s):
  cL J M A (exec (.Assign targets value pos) env) Q s:=by
 rw[exec_Assign_arm]
 refine at_ ?_
 rw[hs]
 refine cM (ret ?_)
 rw[bC (by decide)]
 refine cM (mono h λ v s₁ bH=>?_)
 rw[hw]
 refine cM (ret ?_)
 show cL J M A (do rule "assign.swapped-stores"; let items ← unpackItems v names.length none; gE (names.reverse.map λ n=>mX env n) items.reverse; pure .next) Q s₁
 exact cM (any (mC (cM (mono bH λ items bp cW=>cM (mono cW λ aa aa z=>ret z)))))
end
section
variable{J:aC}{prog:aK}{w:bw}{A:bn}{s:ar}{R:iQ->ar->Prop}
theorem whileLoop{t b env}(I:Nat->ar->Prop)
  (turn:∀n s,I n s->cL J (aE prog w) A (isTrue t env (eval t env)) (λ c bp=>aX c (cL J (aE prog w) A (execs b env) (λ f fW=>match f with
      | .next | .cont=>∃m,m < n/\I m fW
      | .brk=>R (.ok .next) fW
      | .ret v=>R (.ok (.ret v)) fW) bp) (R (.ok .next) bp)) s)
  (n:Nat) (h:I n s):dP J (aE prog w) A (.whileLoop t b [] env) R s:=by
 induction n using xN generalizing s with
 |ind n ih=>
  refine tree ?_
  show cL J _ A ((whileTurn t b [] env).onRaise (λ x=>do qO x env; k6 x)) _ s
  refine raises ?_
  unfold whileTurn
  refine cM (mono (turn n s h) λ c bp cW=>?_)
  cases c with
  |false=>exact cM (any (wpAny_execs_nil (ret cW)))
  |true=>
   refine cM (mono cW λ f fW fH=>?_)
   cases f with
   |next=>obtain⟨m,hm,hI⟩:=fH; exact ret ⟨rfl,rfl,ih m hm hI⟩
   |cont=>obtain⟨m,hm,hI⟩:=fH; exact ret ⟨rfl,rfl,ih m hm hI⟩
   |brk=>exact ret fH
   |ret v=>exact ret fH
theorem forLoop{t it b env}(I:Nat->ar->Prop)
  (turn:∀n s,I n s->cL J (aE prog w) A (gL it) (λ r s₁=>match r with
   |none=>R (.ok .next) s₁
   |some v=>cL J (aE prog w) A (dy t it v) (λ aa Nu=>cL J (aE prog w) A (assign t env v) (λ aa bp=>cL J (aE prog w) A (execs b env) (λ f fW=>match f with
      | .next | .cont=>∃m,m < n/\I m fW
      | .brk=>R (.ok .next) fW
      | .ret v=>R (.ok (.ret v)) fW) bp) Nu) s₁) s)
  (n:Nat) (h:I n s):dP J (aE prog w) A (.forLoop t it b [] env) R s:=by
 induction n using xN generalizing s with
 |ind n ih=>
  refine tree ?_
  show cL J _ A ((forTurn t it b [] env).onRaise (λ x=>do qO x env; k6 x)) _ s
  refine raises ?_
  unfold forTurn
  refine at_ (cM (raises (mono (turn n s h) λ r bp cW=>?_)))
  cases r with
  |none=>exact ret ⟨rfl,rfl,BZ (codeAny_block (wpAny_execs_nil cW))⟩
  |some v=>
   refine cM (mono cW λ aa fW fH=>cM (mono fH λ aa s7 nN=>cM (mono nN λ f Rb CA=>?_)))
   cases f with
   |next=>obtain⟨m,hm,hI⟩:=CA; exact ret ⟨rfl,rfl,ih m hm hI⟩
   |cont=>obtain⟨m,hm,hI⟩:=CA; exact ret ⟨rfl,rfl,ih m hm hI⟩
   |brk=>exact ret CA
   |ret v=>exact ret CA
theorem func{body env}
  (h:cL J (aE prog w) (A.deeper env) (execs body env) (λ f s'=>R (.ok (.ret (match f with | .ret v=>v|_=> .none))) s') s):dP J (aE prog w) A (.func body env) R s:=by
 refine tree ?_
 show cL J _ (A.deeper env) (do point; match ← (execs body env).onRaise (leaving env) with | .ret v=>PySem.ret v|_=>PySem.ret .none) _ s
 exact cM (any (A_ (cM (raises (mono h λ f s' h'=>by cases f<;>exact ret h')))))
theorem KB{a:au}{o:Obj}{fd:dR}{body:ae f0}{vals:ae ak}{binds:ae (bI×ak)}
  (uw:A.depth < tu) (ho:s.heap.get? a=af o) (Lu:o.data= .func fd) (Lz:s.heap.NoLimit) (X6:s.heap.CodeRec fd.code fd.qualname)
  (Cx:fd.body= .stmts body) (Cw:mS s fd ⟨vals,[]⟩ binds) (Uu:fd.closure=[])
  (yW:∀x∈binds,fd.scope.names.lookup x.1=af .local\/(fd.scope.names.lookup x.1=af .cell/\((cellsFrom (s.heap.objs.size+1) fd.scope.names []).lookup x.1).isSome=true))
  (N2:fd.scope.isCoroutine=false) (Lx:fd.scope.isGenerator=false) (hk:fd.scope.kind= .function)
  (h:∀s₁,InCallC s (eD fd s.heap.objs.size a).locals (bindL (eD fd s.heap.objs.size a).kindOf binds λ aa=>none) (eD fd s.heap.objs.size a).cells
    (bindC (eD fd s.heap.objs.size a).kindOf binds λ aa=>none) s₁->
   cL J (aE prog w) (A.deeper (eD fd s.heap.objs.size a)) (execs body (eD fd s.heap.objs.size a)) (λ f s'=>R (.ok (.ret (match f with | .ret v=>v|_=> .none))) s') s₁):
  dP J (aE prog w) A (.call (.ref a) ⟨vals,[]⟩) R s:=by
 refine tree ?_
 show cL J _ A.in1 (DY (.ref a) ⟨vals,[]⟩) _ s
 unfold DY
 dsimp only
 refine cM (any (iR ho ?_))
 obtain⟨c,oc,vs,tq,hc,Ye,hdc,hq⟩:=X6
 rw[Lu]
 dsimp only
 unfold callFunction
 dsimp only
 rw[N2,Lx,hc,Uu,Cx]
 dsimp only
 refine cM (m:=field (.ref c) 1) (any (wpAny_field Ye hdc hq (cM (ret ?_))))
 refine cM (any (Cw _ _ _ _ (cM (any ?_))))
 refine Ed hk yW λ env he s' x=>?_
 have nl:s'.heap.NoLimit:=Lz.keeps x.toInCall.keep
 subst he
 refine cM (any (wpAny_enterFrame nl uw (ret ⟨rfl,rfl,func ?_⟩)))
 have hx:=h s' (by unfold eD; exact x)
 unfold eD at hx
 rw[hc] at hx
 exact hx
end
end X
set_option genCtorIdx true
inductive AV where
 |undef|none|bool (b:aC)|int (i:Int)|ky (bs:ae bZ)|own (i:Nat)|val (v:ak)|fn (a:au)
 |lF (xs:ae Int)|nM (xz:ae (ae Int))
 |tup (xs:ae AV)|lst (xs:ae AV)|row (ns:ae Int)|inst (C:au) (ks:ae Nat) (vs:ae AV)
 |any|j_ (a b c:Int)|iM (ks:ae Int) (vs:ae AV)|bG (ks:ae (ae Int)) (vs:ae AV)
set_option genCtorIdx false
theorem AV.lst.inj{x y:ae AV}(h:AV.lst x= .lst y):x=y:=by cases h; rfl
theorem AV.int.inj{x y:Int}(h:AV.int x= .int y):x=y:=by cases h; rfl
theorem AV.own.inj{x y:Nat}(h:AV.own x= .own y):x=y:=by cases h; rfl
inductive AO where
 |lst (xs:ae AV)|il (ns:ae Int)|inst (C:au) (j:Nat)|ns (ks:ae Nat) (vs:ae AV)
 |iM (ks:ae Int) (vs:ae AV)|bG (ks:ae (ae Int)) (vs:ae AV)|ba (bs:ae bZ)|tab
structure St where
 loc:ae AV
 mem:ae AO
noncomputable abbrev BM:=au->aq Obj
def dG(G G':BM):Prop:=∀a o,G a=af o->G' a=af o
theorem dG.refl(G:BM):dG G G:=λ aa aa e=>e
theorem dG.trans{a b c:BM}(x:dG a b)(y:dG b c):dG a c:=λ p o e=>y p o (x p o e)
noncomputable def fieldNames:ae bI:=(["states","senses","slots","bounds","low","bins","contexts","ahead","splits","n","first","end","signs","size","code","left","found","parts","encoder",
 "ident","across","down","quant","kind","precision","height","width","components","many","planes","places","dc_slots","ac_slots","start","high",
 "put","widen","octet_out","clear_end","finish","step","get","is_alone","blocks","plane_size","most_across","most_down","mcus_across","mcus_down","padded"]:ae cS).map bT
def nm(i:Nat):bI:=fieldNames.getD i (bT "?")
noncomputable def NM:Nat:=50
def YT:aC:=(eA NM).all λ i=>(eA NM).all λ j=>(nm i==nm j)==(i==j)
theorem YU:YT=true:=by decide+kernel
theorem Fg{i j:Nat}(hi:i < NM)(hj:j < NM):(nm i==nm j)=(i==j):=by
 have h:=YU
 unfold YT at h
 rw[aY] at h
 have:=h i (q7.mpr hi)
 rw[aY] at this
 exact a4.mp (this j (q7.mpr hj))
noncomputable def Xb{α β:Type}(f:α->β)(d:β)(l:ae α):Nat->β:=l5 (motive:=λ aa=>Nat->β) (λ aa=>d) (λ v aa k i=>D4 (motive:=λ aa=>β) (f v) (λ j aa=>k j) i) l
noncomputable def Nc{α:Type}(v:α)(l:ae α):Nat->ae α:=l5 (motive:=λ aa=>Nat->ae α) (λ aa=>[]) (λ u r k i=>D4 (motive:=λ aa=>ae α) (v::r) (λ j aa=>u::k j) i) l
noncomputable def E7{κ α:Type}(e:κ->κ->aC):ae κ->ae α->κ->aq α
 |k::ks,v::vs,x=>aX (e k x) (af v) (E7 e ks vs x)
 |_,_,_=> .none
noncomputable def jX{κ α:Type}(e:κ->κ->aC):ae κ->ae α->κ->α->ae α
 |k::ks,v::vs,x,u=>aX (e k x) (u::vs) (v::jX e ks vs x u)
 |_,_,_,u=>[u]
noncomputable def nh{κ:Type}(e:κ->κ->aC):ae κ->κ->ae κ
 |k::ks,x=>aX (e k x) (k::ks) (k::nh e ks x)
 |[],x=>[x]
abbrev lk:ae Nat->ae AV->Nat->aq AV:=E7 a_
abbrev Ja:ae Nat->ae AV->Nat->AV->ae AV:=jX a_
abbrev putK:ae Nat->Nat->ae Nat:=nh a_
section
variable{κ α:Type}{e:κ->κ->aC}{k x:κ}{ks:ae κ}{v u:α}{vs:ae α}
theorem qE(h:e k x=true):nh e (k::ks) x=k::ks:=by show aX _ _ _=_; rw[h]; rfl
theorem mN(h:e k x=false):nh e (k::ks) x=k::nh e ks x:=by show aX _ _ _=_; rw[h]; rfl
theorem ou(h:e k x=true):jX e (k::ks) (v::vs) x u=u::vs:=by show aX _ _ _=_; rw[h]; rfl
theorem lp(h:e k x=false):jX e (k::ks) (v::vs) x u=v::jX e ks vs x u:=by show aX _ _ _=_; rw[h]; rfl
theorem vm(h:e k x=true):E7 e (k::ks) (v::vs) x=af v:=by show aX _ _ _=_; rw[h]; rfl
theorem sL(h:e k x=false):E7 e (k::ks) (v::vs) x=E7 e ks vs x:=by show aX _ _ _=_; rw[h]; rfl
end
theorem condB{α:Type}{b:aC}{x y:aq α}{r:α}{Q:Prop}(h:aX b x y=af r)(k1:b=true->x=af r->Q)(k2:b=false->y=af r->Q):Q:=by
 rcases b
 ·exact k2 rfl h
 ·exact k1 rfl h
theorem zf{κ:Type}{e:κ->κ->aC}{x:κ}:∀ks:ae κ,(nh e ks x).length<=ks.length+1
 |[]=>cF _
 |k::ks=>by
  show(aX (e k x) (k::ks) (k::nh e ks x)).length<=_
  cases e k x
  ·exact eH (zf ks)
  ·exact xE _
noncomputable def wE:ae Nat->Nat->aC
 |k::ks,x=>aX (a_ k x) true (wE ks x)
 |_,_=>false
noncomputable def pC(o:Obj)(vs:bD ak):Prop:=o.cls= .type "tuple"/\∃n,o.data= .seq vs n
noncomputable def iY(o:Obj)(vs:bD ak):Prop:=∃n,o=(⟨.type "list", .none, .seq vs n,#[]⟩:Obj)
theorem iY.is{o:Obj}{vs:bD ak}(h:iY o vs):o.cls= .type "list"/\∃n,o.data= .seq vs n:=let ⟨n,e⟩:=h; by subst e; exact⟨rfl,n,rfl⟩
theorem iY.plain{h:Heap}{l:au}{o:Obj}{vs:bD ak}(ho:h.get? l=af o)(x:iY o vs):h.PlainList l vs:=let ⟨n,e⟩:=x; ⟨n,by rw[ho,e]⟩
theorem iY.of{h:Heap}{l:au}{vs:bD ak}(x:h.PlainList l vs):∃o,h.get? l=af o/\iY o vs:=let ⟨n,e⟩:=x; ⟨_,e,n,rfl⟩
noncomputable def cx:ae Int->ae ak->Prop
 |[],vs=>vs=[]
 |i::is,vs=>∃t r,vs= .int i t::r/\cx is r
noncomputable def ue:ae Nat->ae bf->ae ak->Prop
 |[],es,us=>es=[]/\us=[]
 |k::ks,es,us=>∃h t u Be ry,es=⟨h, .str (nm k) t,u⟩::Be/\us=u::ry/\k < NM/\ue ks Be ry
noncomputable def FF(ks:ae Int):Int:=reduceHash (Builtin.Tuple.tupleHashOf (ks.map hashInt))
noncomputable def xU:ae Int->ae bf->ae ak->Prop
 |[],es,us=>es=[]/\us=[]
 |k::ks,es,us=>∃t u Be ry,es=⟨hashInt k, .int k t,u⟩::Be/\us=u::ry/\xU ks Be ry
noncomputable def pB(G:BM):ae (ae Int)->ae bf->ae ak->Prop
 |[],es,us=>es=[]/\us=[]
 |k::ks,es,us=>∃a o vs u Be ry,es=⟨FF k, .ref a,u⟩::Be/\us=u::ry/\(G a=af o/\pC o vs)/\cx k vs.toList/\pB G ks Be ry
mutual
noncomputable def VR(G:BM)(ρ:ae au):AV->ak->Prop
 | .undef,_=>False
 | .none,v=>v= .none
 | .bool b,v=>v= .bool b
 | .int i,v=>∃t,v= .int i t
 | .ky bs,v=>∃t,v= .bytes bs.toArray t
 | .own i,v=>∃a,ρ[i]?=af a/\v= .ref a
 | .val u,v=>v=u/\xO u=true
 | .fn a,v=>v= .ref a/\∃o fd,G a=af o/\o.data= .func fd
 | .lF xs,v=>∃a o vs,v= .ref a/\G a=af o/\pC o vs/\cx xs vs.toList
 | .nM xz,v=>∃a o vs,v= .ref a/\G a=af o/\pC o vs/\vs.size=xz.length/\
   ∀(i:Nat) (xs:ae Int),xz[i]?=af xs->∃(b:au) (o:Obj) (us:bD ak),vs[i]?=af (du b)/\G b=af o/\pC o us/\cx xs us.toList
 | .tup xs,v=>∃a o vs,v= .ref a/\G a=af o/\pC o vs/\bJ G ρ xs vs.toList
 | .lst xs,v=>∃a o vs,v= .ref a/\G a=af o/\iY o vs/\bJ G ρ xs vs.toList
 | .row ns,v=>∃a o vs,v= .ref a/\G a=af o/\iY o vs/\cx ns vs.toList
 | .inst C ks us,v=>∃a d es n vs,v= .ref a/\G a=af (gC C d)/\G d=af (nz es n)/\ue ks es vs/\bJ G ρ us vs
 | .any,v=>xO v=true
 | .j_ x y z,v=>∃a t u w,v= .ref a/\G a=af (⟨.type "range", .none, .fields #[.int x t, .int y u, .int z w],#[]⟩:Obj)
 | .iM ks us,v=>∃a o es n vs,v= .ref a/\G a=af o/\o.ExactDict/\o.data= .dict es n/\xU ks es.toList vs/\bJ G ρ us vs/\ks.Nodup/\a≠di
 | .bG ks us,v=>∃a o es n vs,v= .ref a/\G a=af o/\o.ExactDict/\o.data= .dict es n/\pB G ks es.toList vs/\bJ G ρ us vs/\ks.Nodup/\a≠di
noncomputable def bJ(G:BM)(ρ:ae au):ae AV->ae ak->Prop
 |[],vs=>vs=[]
 |a::as,vs=>∃v r,vs=v::r/\VR G ρ a v/\bJ G ρ as r
end
noncomputable def Ak:c9:=⟨487,52,487,114⟩
noncomputable def m_:bI:=bT "scan_conditioning"++".<locals>."++"<lambda>"
def Ij(G:BM)(o:Obj):Prop:=∃ps,o=ti ps/\TriplesOk ps.toList/\(codeAmong Ak ps.toList=none\/∃c oc vs t,codeAmong Ak ps.toList=af (.ref c)/\G c=af oc/\oc.data= .fields vs/\vs[1]?=af (.str m_ t))
theorem Ij.up{G G':BM}(g:dG G G'){o:Obj}:Ij G o->Ij G' o:=
 .imp λ aa=> .imp_right<| .imp_right<| .imp_right<| .imp λ aa=> .imp λ aa=> .imp λ aa=> .imp λ aa=> .imp_right<| .imp_left<|g _ _
def OR(G:BM)(ρ:ae au):AO->Obj->Prop
 | .lst xs,o=>∃vs,iY o vs/\bJ G ρ xs vs.toList
 | .il ns,o=>∃vs,iY o vs/\cx ns vs.toList
 | .inst C j,o=>∃d,ρ[j]?=af d/\o=gC C d
 | .ns ks vs,o=>∃es n us,o=nz es n/\ue ks es us/\bJ G ρ vs us
 | .iM ks vs,o=>o.ExactDict/\∃es n us,o.data= .dict es n/\xU ks es.toList us/\bJ G ρ vs us/\ks.Nodup
 | .bG ks vs,o=>o.ExactDict/\∃es n us,o.data= .dict es n/\pB G ks es.toList us/\bJ G ρ vs us/\ks.Nodup
 | .ba bs,o=>o=(⟨.type "bytearray", .none, .bytearray bs.toArray 0,#[]⟩:Obj)
 | .tab,o=>Ij G o
noncomputable def Ext(ρ ρ':ae au):Prop:=∃τ,ρ'=ρ++τ
theorem Ext.refl(ρ:ae au):Ext ρ ρ:=⟨[],(bS ρ).symm⟩
theorem Ext.trans{a b c:ae au}(x:Ext a b)(y:Ext b c):Ext a c:=by
 obtain⟨s,rfl⟩:=x; obtain⟨t,rfl⟩:=y; exact⟨s++t,gR ..⟩
theorem Ext.snoc(ρ:ae au)(a:au):Ext ρ (ρ++[a]):=⟨[a],rfl⟩
theorem Ext.get{ρ ρ':ae au}(x:Ext ρ ρ'){i:Nat}{a:au}(h:ρ[i]?=af a):ρ'[i]?=af a:=by
 obtain⟨τ,rfl⟩:=x
 rw[dD (jm.mp h).1]; exact h
theorem Ext.mem{ρ ρ':ae au}(x:Ext ρ ρ'){a:au}(h:a∈ρ):a∈ρ':=by
 obtain⟨τ,rfl⟩:=x; exact dA _ h
section
variable{G G':BM}{ρ ρ':ae au}
theorem pB.up(g:dG G G'):∀{ks:ae (ae Int)} {es:ae bf} {us:ae ak},pB G ks es us->pB G' ks es us
 |[]=>id
 |_::_=> .imp λ aa=> .imp λ aa=> .imp λ aa=> .imp λ aa=> .imp λ aa=> .imp λ aa=> .imp_right<| .imp_right<| .imp (.imp_left (g _ _))<| .imp_right<|pB.up g
theorem NI(g:dG G G'){v:ak}{R R':Obj->bD ak->Prop}(k:∀o vs,R o vs->R' o vs):(∃a o vs,v= .ref a/\G a=af o/\R o vs)->∃a o vs,v= .ref a/\G' a=af o/\R' o vs:=
 .imp λ aa=> .imp λ aa=> .imp λ aa=> .imp_right<| .imp (g _ _) (k _ _)
theorem S7(g:dG G G'){v:ak}{R R':au->Obj->bD bf->Nat->ae ak->Prop}(k:∀a o es n vs,R a o es n vs->R' a o es n vs):(∃a o es n vs,v= .ref a/\G a=af o/\R a o es n vs)->∃a o es n vs,v= .ref a/\G' a=af o/\R' a o es n vs:=
 .imp λ aa=> .imp λ aa=> .imp λ aa=> .imp λ aa=> .imp λ aa=> .imp_right<| .imp (g _ _) (k _ _ _ _ _)
theorem Z3(x:Ext ρ ρ'){i:Nat}{v:ak}:(∃a,ρ[i]?=af a/\v= .ref a)->∃a,ρ'[i]?=af a/\v= .ref a:= .imp λ aa=> .imp_left x.get
theorem Z2(g:dG G G'){a:au}{p:Prop}:(p/\∃o fd,G a=af o/\o.data= .func fd)->p/\∃o fd,G' a=af o/\o.data= .func fd:= .imp_right<| .imp λ aa=> .imp λ aa=> .imp_left<|g _ _
theorem adu(g:dG G G'){xz:ae (ae Int)}{vs:bD ak}{p:Prop}:(p/\∀(i:Nat) (xs:ae Int),xz[i]?=af xs->∃(b:au) (o:Obj) (us:bD ak),vs[i]?=af (du b)/\G b=af o/\pC o us/\cx xs us.toList)->
 p/\∀(i:Nat) (xs:ae Int),xz[i]?=af xs->∃(b:au) (o:Obj) (us:bD ak),vs[i]?=af (du b)/\G' b=af o/\pC o us/\cx xs us.toList:=
 .imp_right λ h i xs e=>(h i xs e).imp λ aa=> .imp λ aa=> .imp λ aa=> .imp_right<| .imp_left<|g _ _
theorem AX(g:dG G G'){C:au}{ks:ae Nat}{v:ak}{R R':ae ak->Prop}(k:∀vs,R vs->R' vs):(∃a d es n vs,v= .ref a/\G a=af (gC C d)/\G d=af (nz es n)/\ue ks es vs/\R vs)->∃a d es n vs,v= .ref a/\G' a=af (gC C d)/\G' d=af (nz es n)/\ue ks es vs/\R' vs:=
 .imp λ aa=> .imp λ aa=> .imp λ aa=> .imp λ aa=> .imp λ aa=> .imp_right<| .imp (g _ _)<| .imp (g _ _)<| .imp_right (k _)
theorem S8(g:dG G G'){x y z:Int}{v:ak}:(∃a t u w,v= .ref a/\G a=af (⟨.type "range", .none, .fields #[.int x t, .int y u, .int z w],#[]⟩:Obj))->∃a t u w,v= .ref a/\G' a=af (⟨.type "range", .none, .fields #[.int x t, .int y u, .int z w],#[]⟩:Obj):=
 .imp λ aa=> .imp λ aa=> .imp λ aa=> .imp λ aa=> .imp_right (g _ _)
mutual
theorem VR.up(g:dG G G')(x:Ext ρ ρ'):∀(a:AV) {v:ak},VR G ρ a v->VR G' ρ' a v
 | .undef=>λ h=>h
 | .none=>λ h=>h
 | .bool _=>λ h=>h
 | .int _=>λ h=>h
 | .ky _=>λ h=>h
 | .own _=>λ h=>Z3 x h
 | .val _=>λ h=>h
 | .fn _=>λ h=>Z2 g h
 | .lF _=>λ h=>NI g (λ aa aa r=>r) h
 | .nM _=>λ h=>NI g (λ aa aa=> .imp_right (adu g)) h
 | .tup xs=>λ h=>NI g (λ aa aa=> .imp_right (bJ.up g x xs)) h
 | .lst xs=>λ h=>NI g (λ aa aa=> .imp_right (bJ.up g x xs)) h
 | .row _=>λ h=>NI g (λ aa aa r=>r) h
 | .inst _ _ us=>λ h=>AX g (λ aa=>bJ.up g x us) h
 | .any=>λ h=>h
 | .j_ _ _ _=>λ h=>S8 g h
 | .iM _ us=>λ h=>S7 g (λ aa aa aa aa aa=> .imp_right<| .imp_right<| .imp_right<| .imp_left (bJ.up g x us)) h
 | .bG _ us=>λ h=>S7 g (λ aa aa aa aa aa=> .imp_right<| .imp_right<| .imp (pB.up g)<| .imp_left (bJ.up g x us)) h
theorem bJ.up(g:dG G G')(x:Ext ρ ρ'):∀(as:ae AV) {vs:ae ak},bJ G ρ as vs->bJ G' ρ' as vs
 |[]=>λ h=>h
 |a::as=>λ h=>h.imp λ aa=> .imp λ aa=> .imp_right<| .imp (VR.up g x a) (bJ.up g x as)
end
theorem OR.up(g:dG G G')(x:Ext ρ ρ'){a:AO}{o:Obj}(h:OR G ρ a o):OR G' ρ' a o:=by
 rcases a with xs|_|_|_|_|_|_|_
 ·exact cQ (λ aa=> .imp_right (bJ.up g x _)) h
 ·exact h
 ·exact cQ (λ aa=> .imp_left x.get) h
 ·exact cQ (λ aa=> .imp λ aa=> .imp λ aa=> .imp_right<| .imp_right<|bJ.up g x _) h
 ·exact iN (.imp λ aa=> .imp λ aa=> .imp λ aa=> .imp_right<| .imp_right<| .imp_left<|bJ.up g x _) h
 ·exact iN (.imp λ aa=> .imp λ aa=> .imp λ aa=> .imp_right<| .imp (pB.up g)<| .imp_left<|bJ.up g x _) h
 ·exact h
 ·exact Ij.up g h
theorem bJ.u0{vs:ae ak}{Q:ae ak->Prop}(h:bJ G ρ [] vs)(k:Q []):Q vs:=(show vs=[] from h)▸k
theorem bJ.uc{a:AV}{as:ae AV}{vs:ae ak}{Q:ae ak->Prop}(h:bJ G ρ (a::as) vs)(k:∀v r,VR G ρ a v->bJ G ρ as r->Q (v::r)):Q vs:=
 aD h λ v h=>h.elim λ r h=>h.1▸k v r h.2.1 h.2.2
theorem bJ.nil:bJ G ρ [] []:=rfl
theorem bJ.cons{a:AV}{v:ak}{as:ae AV}{vs:ae ak}(h:VR G ρ a v)(k:bJ G ρ as vs):bJ G ρ (a::as) (v::vs):=⟨v,vs,rfl,h,k⟩
theorem bJ.length:∀{as:ae AV} {vs:ae ak},bJ G ρ as vs->vs.length=as.length
 |[]=>λ h=>h.u0 (Q:=λ vs=>vs.length=0) rfl
 |_::as=>λ h=>h.uc (Q:=λ vs=>vs.length=as.length+1) λ aa aa aa h=>ah (·+1) (bJ.length h)
theorem cu{α:Type}{y:α}{Q:Prop}(h:(none:aq α)=af y):Q:=by cases h
theorem bJ.Lj{a:AV}:∀{as:ae AV} {i:Nat} {vs:ae ak},bJ G ρ as vs->as[i]?=af a->∃v,vs[i]?=af v/\VR G ρ a v
 |[],_=>λ aa e=>cu e
 |_::_,0=>λ h e=>h.uc (Q:=λ vs=>∃v,vs[0]?=af v/\VR G ρ a v) λ v aa h1 aa=>⟨v,rfl,am e▸h1⟩
 |_::_,i+1=>λ h e=>h.uc (Q:=λ vs=>∃v,vs[i+1]?=af v/\VR G ρ a v) λ aa aa aa h2=>bJ.Lj (i:=i) h2 e
theorem bJ.get{as:ae AV}{vs:ae ak}(h:bJ G ρ as vs){i:Nat}{a:AV}(e:as[i]?=af a):∃v,vs[i]?=af v/\VR G ρ a v:=h.Lj e
theorem bJ.AH{a:AV}{v:ak}(e:VR G ρ a v):∀{as:ae AV} {i:Nat} {vs:ae ak},bJ G ρ as vs->bJ G ρ (as.set i a) (vs.set i v)
 |[],_=>λ h=>h.u0 (Q:=λ vs=>bJ G ρ [] (vs.set _ v)) rfl
 |_::as,0=>λ h=>h.uc (Q:=λ vs=>bJ G ρ (a::as) (vs.set 0 v)) λ aa aa aa h2=>bJ.cons e h2
 |b::as,i+1=>λ h=>h.uc (Q:=λ vs=>bJ G ρ (b::as.set i a) (vs.set (i+1) v)) λ aa aa h1 h2=>bJ.cons h1 (bJ.AH e h2)
theorem bJ.set{as:ae AV}{vs:ae ak}(h:bJ G ρ as vs){i:Nat}{a:AV}{v:ak}(e:VR G ρ a v):bJ G ρ (as.set i a) (vs.set i v):=h.AH e
theorem bJ.append{bs:ae AV}{us:ae ak}:∀{as:ae AV} {vs:ae ak},bJ G ρ as vs->bJ G ρ bs us->bJ G ρ (as++bs) (vs++us)
 |[]=>λ h k=>h.u0 (Q:=λ vs=>bJ G ρ bs (vs++us)) k
 |b::as=>λ h k=>h.uc (Q:=λ vs=>bJ G ρ (b::(as++bs)) (vs++us)) λ aa aa h1 h2=>bJ.cons h1 (bJ.append h2 k)
end
theorem cx.u0{vs:ae ak}{Q:ae ak->Prop}(h:cx [] vs)(k:Q []):Q vs:=(show vs=[] from h)▸k
theorem cx.uc{a:Int}{as:ae Int}{vs:ae ak}{Q:ae ak->Prop}(h:cx (a::as) vs)(k:∀t r,cx as r->Q (.int a t::r)):Q vs:=
 aD h λ t h=>h.elim λ r h=>h.1▸k t r h.2
theorem cx.cons{a:Int}{t:kq}{as:ae Int}{vs:ae ak}(k:cx as vs):cx (a::as) (.int a t::vs):=⟨t,vs,rfl,k⟩
theorem cx.length:∀{as:ae Int} {vs:ae ak},cx as vs->vs.length=as.length
 |[]=>λ h=>h.u0 (Q:=λ vs=>vs.length=0) rfl
 |_::as=>λ h=>h.uc (Q:=λ vs=>vs.length=as.length+1) λ aa aa h=>ah (·+1) h.length
theorem cx.Lj{a:Int}:∀{as:ae Int} {i:Nat} {vs:ae ak},cx as vs->as[i]?=af a->∃t,vs[i]?=af (.int a t)
 |[],_=>λ aa e=>cu e
 |_::_,0=>λ h e=>h.uc (Q:=λ vs=>∃t,vs[0]?=af (.int a t)) λ t aa aa=>⟨t,am e▸rfl⟩
 |_::_,i+1=>λ h e=>h.uc (Q:=λ vs=>∃t,vs[i+1]?=af (.int a t)) λ aa aa h2=>h2.Lj (i:=i) e
theorem cx.get{as:ae Int}{vs:ae ak}(h:cx as vs){i:Nat}{a:Int}(e:as[i]?=af a):∃t,vs[i]?=af (.int a t):=h.Lj e
theorem cx.AH{a:Int}{t:kq}:∀{as:ae Int} {i:Nat} {vs:ae ak},cx as vs->cx (as.set i a) (vs.set i (.int a t))
 |[],_=>λ h=>h.u0 (Q:=λ vs=>cx [] (vs.set _ (.int a t))) rfl
 |_::as,0=>λ h=>h.uc (Q:=λ vs=>cx (a::as) (vs.set 0 (.int a t))) λ aa aa h2=>h2.cons
 |b::as,i+1=>λ h=>h.uc (Q:=λ vs=>cx (b::as.set i a) (vs.set (i+1) (.int a t))) λ aa aa h2=>h2.AH.cons
theorem cx.set{as:ae Int}{vs:ae ak}(h:cx as vs){i:Nat}{a:Int}{t:kq}:cx (as.set i a) (vs.set i (.int a t)):=h.AH
section
variable{G:BM}{ρ:ae au}{v:ak}{Q:ak->Prop}
theorem VR.Mx{i:Int}(h:VR G ρ (.int i) v):∃t,v= .int i t:=h
theorem VR.of_none(h:VR G ρ .none v):v= .none:=h
theorem VR.My{i:Nat}(h:VR G ρ (.own i) v):∃a,ρ[i]?=af a/\v= .ref a:=h
theorem VR.mF{i:Int}{t:kq}:VR G ρ (.int i) (.int i t):=i5 t rfl
theorem VR.Kz{b:aC}:VR G ρ (.bool b) (.bool b):=Eq.refl _
theorem VR.none_:VR G ρ .none .none:=Eq.refl _
theorem VR.R2{bs:ae bZ}{t:kq}:VR G ρ (.ky bs) (.bytes bs.toArray t):=i5 t rfl
theorem VR.I5{i:Nat}{a:au}(h:ρ[i]?=af a):VR G ρ (.own i) (.ref a):=i5 a ⟨h,rfl⟩
theorem VR.ZY{xs:ae AV}{a:au}{o:Obj}{vs:bD ak}(h:G a=af o)(k:pC o vs)(r:bJ G ρ xs vs.toList):VR G ρ (.tup xs) (.ref a):=i5 a ⟨o,vs,rfl,h,k,r⟩
theorem VR.YH{xs:ae AV}{a:au}{o:Obj}{vs:bD ak}(h:G a=af o)(k:iY o vs)(r:bJ G ρ xs vs.toList):VR G ρ (.lst xs) (.ref a):=i5 a ⟨o,vs,rfl,h,k,r⟩
theorem VR.QO{xs:ae Int}{a:au}{o:Obj}{vs:bD ak}(h:G a=af o)(k:iY o vs)(r:cx xs vs.toList):VR G ρ (.row xs) (.ref a):=i5 a ⟨o,vs,rfl,h,k,r⟩
theorem VR.R1{b:aC}(h:VR G ρ (.bool b) v)(k:Q (.bool b)):Q v:=(show v=_ from h)▸k
theorem VR.iu{i:Int}(h:VR G ρ (.int i) v)(k:∀t,Q (.int i t)):Q v:=aD h λ t e=>(show v=_ from e)▸k t
theorem VR.Qv{i:Nat}(h:VR G ρ (.own i) v)(k:∀a,ρ[i]?=af a->Q (.ref a)):Q v:=aD h λ a e=>e.2▸k a e.1
theorem MO{R:au->Obj->bD ak->Prop}(h:∃a o vs,v= .ref a/\R a o vs)(k:∀a o vs,R a o vs->Q (.ref a)):Q v:=h.elim λ a h=>h.elim λ o h=>h.elim λ vs h=>h.1▸k a o vs h.2
theorem VR.Dl{ns:ae Int}(h:VR G ρ (.row ns) v)(k:∀l o vs,G l=af o->iY o vs->cx ns vs.toList->Q (.ref l)):Q v:=MO h λ a o vs h=>k a o vs h.1 h.2.1 h.2.2
theorem VR.lstU{ns:ae AV}(h:VR G ρ (.lst ns) v)(k:∀l o vs,G l=af o->iY o vs->bJ G ρ ns vs.toList->Q (.ref l)):Q v:=MO h λ a o vs h=>k a o vs h.1 h.2.1 h.2.2
theorem VR.Jm{ns:ae AV}(h:VR G ρ (.tup ns) v)(k:∀l o vs,G l=af o->pC o vs->bJ G ρ ns vs.toList->Q (.ref l)):Q v:=MO h λ a o vs h=>k a o vs h.1 h.2.1 h.2.2
end
noncomputable def acZ(a:AV):aC:=match a with
 | .own _=>true
 | .fn _=>true
 | .lF _=>true
 | .nM _=>true
 | .tup _=>true
 | .lst _=>true
 | .row _=>true
 | .inst _ _ _=>true
 | .j_ _ _ _=>true
 | .iM _ _=>true
 | .bG _ _=>true
 |_=>false
theorem VR.isRef{G:BM}{ρ:ae au}{a:AV}{v:ak}(h:VR G ρ a v)(r:acZ a=true):∃x,v= .ref x:=by
 rcases a with _|_|_|_|_|_|_|_|_|_|_|_|_|_|_|_|_|_
 case own=>exact cQ (λ aa h=>h.2) h
 case fn=>exact⟨_,eG h⟩
 case inst=>exact cQ (λ aa h=>h.elim λ aa h=>h.elim λ aa h=>h.elim λ aa h=>h.elim λ aa h=>h.1) h
 case j_=>exact cQ (λ aa h=>h.elim λ aa h=>h.elim λ aa h=>h.elim λ aa h=>h.1) h
 case iM=>exact cQ (λ aa h=>h.elim λ aa h=>h.elim λ aa h=>h.elim λ aa h=>h.elim λ aa h=>h.1) h
 case bG=>exact cQ (λ aa h=>h.elim λ aa h=>h.elim λ aa h=>h.elim λ aa h=>h.elim λ aa h=>h.1) h
 all_goals first|exact ay r|exact cQ (λ aa h=>h.elim λ aa h=>h.elim λ aa h=>h.1) h
theorem bJ.cc{G:BM}{ρ:ae au}{a:AV}{as:ae AV}{v:ak}{vs:ae ak}(h:bJ G ρ (a::as) (v::vs)):VR G ρ a v/\bJ G ρ as vs:=
 aD h λ aa h=>h.elim λ aa h=>have e:=qp h.1; ⟨e.1▸h.2.1,e.2▸h.2.2⟩
section
variable{G:BM}{ρ:ae au}{vs:ae ak}{Q:ae ak->Prop}{a b c:AV}
theorem bJ.u1(h:bJ G ρ [a] vs)(k:∀v,VR G ρ a v->Q [v]):Q vs:=h.uc (Q:=Q) λ v aa h1 h2=>h2.u0 (Q:=λ r=>Q (v::r)) (k v h1)
theorem bJ.u2(h:bJ G ρ [a,b] vs)(k:∀v w,VR G ρ a v->VR G ρ b w->Q [v,w]):Q vs:=h.uc (Q:=Q) λ v aa h1 h2=>h2.u1 (Q:=λ r=>Q (v::r)) λ w=>k v w h1
theorem bJ.u3(h:bJ G ρ [a,b,c] vs)(k:∀v w x,VR G ρ a v->VR G ρ b w->VR G ρ c x->Q [v,w,x]):Q vs:=h.uc (Q:=Q) λ v aa h1 h2=>h2.u2 (Q:=λ r=>Q (v::r)) λ w x=>k v w x h1
end
structure RM(G:BM)(ρ:ae au)(mem:ae AO)(h:Heap):Prop where
 kg:∀a o,G a=af o->h.get? a=af o
 len:ρ.length=mem.length
 obj:∀(i:Nat) (a:au) (ao:AO),ρ[i]?=af a->mem[i]?=af ao->∃o,h.get? a=af o/\OR G ρ ao o
 nd:ρ.Nodup
 fr:∀a∈ρ,G a= .none
section
theorem jr{α:Type}{l:ae α}{i:Nat}{a:α}(h:l[i]?=af a):i < l.length:=(jm.mp h).1
theorem oP{α:Type}{l:ae α}{i:Nat}(h:i < l.length):∃a,l[i]?=af a:=⟨_,d9 h⟩
theorem vG{α:Type}{x y:α}{Q:Prop}:∀{l:ae α} {i:Nat},(l++[x])[i]?=af y->(l[i]?=af y->Q)->(i=l.length->y=x->Q)->Q
 |[],0=>λ h aa k=>k rfl (am h).symm
 |[],_+1=>λ h aa aa=>cu h
 |_::_,0=>λ h k aa=>k h
 |_::l,i+1=>λ h k k'=>vG (l:=l) (i:=i) h k λ e=>k' (ah (·+1) e)
theorem Nd{α:Type}{x y:α}{Q:Prop}:∀{l:ae α} {i j:Nat},(l.set i x)[j]?=af y->(i=j->y=x->Q)->(i≠j->l[j]?=af y->Q)->Q
 |[],_,_=>λ h aa aa=>cu h
 |_::_,0,0=>λ h k aa=>k rfl (am h).symm
 |_::_,0,_+1=>λ h aa k=>k (λ e=>nomatch e) h
 |_::_,_+1,0=>λ h aa k=>k (λ e=>nomatch e) h
 |_::l,i+1,j+1=>λ h k k'=>Nd (l:=l) (i:=i) (j:=j) h (λ e=>k (ah (·+1) e)) λ n=>k' λ e=>n (eJ e)
theorem dh{α:Type}{x:aq α}{a:α}{Q:Prop}(h:x=none)(k:x=af a):Q:=cu (h.symm.trans k)
theorem none_of{α:Type}{x:aq α}(h:∀a,x=af a->False):x=none:=Option.eq_none_iff_forall_ne_some.mpr h
variable{G G':BM}{h h':Heap}{ρ:ae au}{mem:ae AO}
theorem RM.at(R:RM G ρ mem h){i:Nat}{ao:AO}(e:mem[i]?=af ao):∃a o,ρ[i]?=af a/\h.get? a=af o/\OR G ρ ao o:=
 (oP (R.len▸jr e)).imp λ a hi=>(R.obj i a ao hi e).imp λ aa=> .intro hi
theorem im{l:ae au}{i:Nat}{a:au}(e:l[i]?=af a):a∈l:=dB e
theorem RM.some_of(R:RM G ρ mem h){a:au}(ha:a∈ρ):∃o,h.get? a=af o:=
 (l4 ha).elim λ i hi=>(oP (R.len▸jr hi)).elim λ ao e=>(R.obj i a ao hi e).imp λ aa=>eG
theorem RM.yt(R:RM G ρ mem h){a:au}(ha:h.get? a=none):G a=none:=none_of λ o e=>dh ha (R.kg a o e)
theorem RM.Mt(R:RM G ρ mem h){a:au}(ha:h.get? a=none):a∉ρ:=λ hm=>(R.some_of hm).elim λ aa=>dh ha
theorem RM.HG(R:RM G ρ mem h)(k:∀a o,(a∈ρ\/G a=af o)->h.get? a=af o->h'.get? a=af o):RM G ρ mem h':=
 ⟨λ a o e=>k a o (.inr e) (R.kg a o e),R.len,λ i a ao hi e=>(R.obj i a ao hi e).imp λ o=> .imp_left (k a o (.inl (im hi))),R.nd,R.fr⟩
theorem RM.keeps(R:RM G ρ mem h)(k:∀a o,h.get? a=af o->h'.get? a=af o):RM G ρ mem h':=R.HG λ a o aa e=>k a o e
theorem RM.wide(R:RM G ρ mem h)(g:dG G G')(k:∀a o,G' a=af o->h.get? a=af o)(d:∀a∈ρ,G' a= .none):RM G' ρ mem h:=
 ⟨k,R.len,λ i a ao hi e=>(R.obj i a ao hi e).imp λ aa=> .imp_right (OR.up g (Ext.refl _)),R.nd,d⟩
theorem RM.turn(R:RM G ρ mem h){i:Nat}{a:au}{v8:AO}{o':Obj}(hi:ρ[i]?=af a)(he:h'.get? a=af o')(q:OR G ρ v8 o')
  (k:∀b o,b≠a->h.get? b=af o->h'.get? b=af o):RM G ρ (mem.set i v8) h':=
 ⟨λ b o e=>k b o (λ z=>dh (R.fr a (im hi)) (z▸e)) (R.kg b o e),R.len.trans iI.symm,
  λ j b ao hj e=>Nd e (λ ij z=>have ab:a=b:=am (hi.symm.trans ((ah (ρ[·]?) ij).trans hj)); ⟨o',ab▸he,z▸q⟩)
   λ n e=>(R.obj j b ao hj e).imp λ o=> .imp_left (k b o λ z=>n ((nY (jr hi) R.nd).mp (hi.trans ((ah af z.symm).trans hj.symm)))),R.nd,R.fr⟩
theorem RM.new(R:RM G ρ mem h){a:au}{ao:AO}{o:Obj}(ha:h.get? a= .none)(he:h'.get? a=af o)(q:OR G (ρ++[a]) ao o)
  (k:∀b o,h.get? b=af o->h'.get? b=af o):RM G (ρ++[a]) (mem++[ao]) h':=
 ⟨λ b o e=>k b o (R.kg b o e),by rw[bj,bj,R.len]; rfl,
  λ i b bo hi e=>vG hi (λ hi=>vG e (λ e=>(R.obj i b bo hi e).imp λ o=> .imp (k b o) (OR.up (dG.refl _) (Ext.snoc ρ a))) λ z aa=>bt (jr hi) (R.len▸z▸fw _))
   λ z y=>vG e (λ e=>bt (jr e) (R.len▸z▸fw _)) λ aa x=>⟨o,y▸he,x▸q⟩,
  gS.mpr ⟨R.nd,pb _ _,λ x hx y hy z=>R.Mt ha ((z.trans (be.mp hy))▸hx)⟩,
  λ b hb=>(fQ.mp hb).elim (R.fr b) λ hb=>be.mp hb▸R.yt ha⟩
noncomputable def BM.with(G:BM)(a:au)(o:Obj):BM:=λ b=>if b=a then af o else G b
theorem BM.zv(G:BM)(a:au)(o:Obj):G.with a o a=af o:=dq rfl
theorem BM.AZ{a b:au}{o:Obj}(n:b≠a):G.with a o b=G b:=bC n
theorem BM.Rw{a:au}{o:Obj}(e:G a= .none):dG G (G.with a o):=λ b o' q=>(BM.AZ λ z=>dh e (z▸q)).trans q
theorem BM.Hj{a b:au}{o o':Obj}{Q:Prop}(h:G.with a o b=af o')(k:b=a->o=o'->Q)(k':G b=af o'->Q):Q:=
 (d5 (b=a)).elim (λ z=>k z (am ((dq z).symm.trans h))) λ n=>k' ((BM.AZ n).symm.trans h)
theorem RM.freeze(R:RM G ρ mem h){a:au}{o:Obj}(ha:h.get? a= .none)(he:h'.get? a=af o)
  (k:∀b o,h.get? b=af o->h'.get? b=af o):RM (G.with a o) ρ mem h'/\dG G (G.with a o):=
 have g:=BM.Rw (o:=o) (R.yt ha)
 ⟨(R.keeps k).wide g (λ b o' e=>BM.Hj e (λ z y=>z▸y▸he) λ e=>k _ _ (R.kg b o' e)) λ b hb=>(BM.AZ λ(z:b=a)=>R.Mt ha (z▸hb)).trans (R.fr b hb),g⟩
end
def bM(l:ae AO):Nat->aq AO:=Xb af none l
def bz(l:ae AO)(i:Nat)(v:AO):ae AO:=Nc v l i
theorem eL:∀(l:ae AO) (i:Nat),bM l i=l[i]?
 |[],_=>rfl
 |_::_,0=>rfl
 |_::r,i+1=>by rw[List.getElem?_cons_succ]; exact eL r i
theorem oj:∀(l:ae AO) (i:Nat) (v:AO),bz l i v=l.set i v
 |[],_,_=>rfl
 |_::_,0,_=>rfl
 |u::r,i+1,v=>ah (u::·) (oj r i v)
structure mZ(lo size code left:Int)(L:Nat):Prop where
 s0:lo<=size
 s1:size<=65536
 c0:0<=code
 l0:0<=left
 l1:left<=11
 cap:(code+size) * 2 ^ left.toNat<=150994944
 TF:L=0->(code+size) * 2 ^ left.toNat<=134217728
structure pf(size code left:Int)(bs:ae bZ):Prop where
 b:mZ 32768 size code left bs.length
 l:1<=left
inductive TV where
 |ex (v:AV)|rg (l u:Int)|ai|tb|JI (n:Nat)|tp (a b:TV)|rw(q:ae (Int×Int))|ln|lc (h t:TV)|nr (v l u:Int)|gr (R:ae (ae (ae (ae Int))))
inductive TO where
 |ns (ks:ae Nat) (vs:ae TV)|inst (C:au) (j:Nat)|lst (vs:ae TV)|il (q:ae (Int×Int))|Af (n:Nat) (l u:Int)
 |iM (ks:ae Int) (vs:ae TV)|bG (ks:ae (ae Int)) (vs:ae TV)|enc (q L:Nat)|ba|ix (r:ae Int)
structure AS where
 loc:ae TV
 mem:ae TO
noncomputable def q9:ae (Int×Int)->ae Int->Prop
 |[],r=>r=[]
 |q::qs,r=>∃x xs,r=x::xs/\q.1<=x/\x<=q.2/\q9 qs xs
noncomputable def F3(r:ae Int)(c:AV):Prop:=c= .row r\/(c= .none/\r=[0,0,0,0])
noncomputable def tw{α:Type}(P:α->AV->Prop):ae α->ae AV->Prop
 |[],cs=>cs=[]
 |r::rs,cs=>∃c t,cs=c::t/\P r c/\tw P rs t
noncomputable def Ic{α:Type}(P:ae α->ae AV->Prop)(r:ae α)(v:AV):Prop:=∃c,v= .lst c/\P r c
abbrev zB:=tw F3
abbrev Ti:=tw (Ic zB)
abbrev ve:=tw (Ic Ti)
def m8(R:ae (ae (ae (ae Int))))(x:AV):Prop:=∃ps,x= .inst 812 [28,29] [.int 4, .lst ps]/\ve R ps
noncomputable def GV:TV->AV->Prop
 | .ex v,x=>x=v
 | .rg l u,x=>∃i,x= .int i/\l<=i/\i<=u
 | .ai,x=>∃i,x= .int i
 | .tb,x=>∃b,x= .bool b
 | .JI n,x=>∃bs,x= .ky bs/\bs.length<=n
 | .tp a b,x=>∃y z,x= .tup [y,z]/\GV a y/\GV b z
 | .rw q,x=>∃r,x= .row r/\q9 q r
 | .ln,x=>x= .lst []
 | .lc h t,x=>∃y ys,x= .lst (y::ys)/\GV h y/\GV t (.lst ys)
 | .nr v l u,x=>x= .int v/\l<=v/\v<=u
 | .gr R,x=>m8 R x
noncomputable def dH:ae TV->ae AV->Prop
 |[],us=>us=[]
 |t::ts,us=>∃u r,us=u::r/\GV t u/\dH ts r
def GO(m:ae AO):TO->AO->Prop
 | .ns ks vs,o=>∃us,o= .ns ks us/\dH vs us
 | .inst C j,o=>o= .inst C j
 | .lst vs,o=>∃us,o= .lst us/\dH vs us
 | .il q,o=>∃r,o= .il r/\q9 q r
 | .Af n l u,o=>∃r,o= .il r/\r.length=n/\∀x∈r,l<=x/\x<=u
 | .iM ks vs,o=>∃us,o= .iM ks us/\dH vs us
 | .bG ks vs,o=>∃us,o= .bG ks us/\dH vs us
 | .enc q L,o=>∃size code left bs,o= .ns [13,14,15,16] [.int size, .int code, .int left, .own q]/\bM m q=af (.ba bs)/\pf size code left bs/\bs.length<=L
 | .ba,o=>∃bs,o= .ba bs
 | .ix r,o=>o= .il r
def gU(l:ae TO):Nat->aq TO:=Xb af none l
def q5(l:ae TO)(i:Nat)(v:TO):ae TO:=Nc v l i
noncomputable def wG:TO->aC
 | .ba=>true
 |_=>false
noncomputable def ml:TO->aq Nat
 | .enc q _=>af q
 |_=>none
structure GM(t:ae TO)(m:ae AO):Prop where
 len:t.length=m.length
 get:∀i o,gU t i=af o->∃o',bM m i=af o'/\GO m o o'
 enc:∀i o q,gU t i=af o->ml o=af q->gU t q=af .ba
structure GS(s:AS)(σ:St):Prop where
 loc:dH s.loc σ.loc
 mem:GM s.mem σ.mem
theorem qj:∀{t:ae TO} {i:Nat} {o:TO},gU t i=af o->i < t.length
 |[],_,_=>cu
 |_::_,0,_=>λ aa=>py _
 |_::r,_+1,_=>λ h=>ge (qj (t:=r) h)
theorem o_{o y:TO}{Q:Prop}:∀{t:ae TO} {i j:Nat},gU (q5 t i o) j=af y->(j=i->y=o->Q)->(j≠i->gU t j=af y->Q)->Q
 |[],_,_=>λ h aa aa=>cu h
 |_::_,0,0=>λ h k aa=>k rfl (am h).symm
 |_::_,0,_+1=>λ h aa k=>k (cy _) h
 |_::_,_+1,0=>λ h aa k=>k (cy _).symm h
 |_::l,i+1,j+1=>λ h k k'=>o_ (t:=l) (i:=i) (j:=j) h (λ e=>k (ah (·+1) e)) λ n=>k' λ e=>n (eJ e)
theorem lB{o:TO}:∀{t:ae TO} {i j:Nat},j≠i->gU (q5 t i o) j=gU t j
 |[],_,_=>λ aa=>rfl
 |_::_,0,0=>λ n=>bt rfl n
 |_::_,0,_+1=>λ aa=>rfl
 |_::_,_+1,0=>λ aa=>rfl
 |_::l,_+1,_+1=>λ n=>lB (t:=l) λ e=>n (ah (·+1) e)
theorem fJ(l:ae AO)(i:Nat)(v:AO):(bz l i v).length=l.length:=oj l i v▸iI
theorem iV:∀{l:ae AO} {i:Nat} {v:AO},i < l.length->bM (bz l i v) i=af v
 |[],_,_=>λ h=>bt h (mx _)
 |_::_,0,_=>λ aa=>rfl
 |_::r,_+1,_=>λ h=>iV (l:=r) (iq h)
theorem dV:∀{l:ae AO} {i j:Nat} {v:AO},j≠i->bM (bz l i v) j=bM l j
 |[],_,_,_=>λ aa=>rfl
 |_::_,0,0,_=>λ n=>bt rfl n
 |_::_,0,_+1,_=>λ aa=>rfl
 |_::_,_+1,0,_=>λ aa=>rfl
 |_::l,_+1,_+1,_=>λ n=>dV (l:=l) λ e=>n (ah (·+1) e)
theorem xj{o y:TO}{Q:Prop}:∀{t:ae TO} {j:Nat},gU (t++[o]) j=af y->(j=t.length->y=o->Q)->(gU t j=af y->Q)->Q
 |[],0=>λ h k aa=>k rfl (am h).symm
 |[],_+1=>λ h aa aa=>cu h
 |_::_,0=>λ h aa k=>k h
 |_::l,j+1=>λ h k k'=>xj (t:=l) (j:=j) h (λ e=>k (ah (·+1) e)) k'
theorem xk{o y:TO}:∀{t:ae TO} {j:Nat},gU t j=af y->gU (t++[o]) j=af y
 |[],_=>cu
 |_::_,0=>id
 |_::l,j+1=>λ h=>xk (t:=l) (j:=j) h
theorem qb{o:AO}:∀{t:ae AO},bM (t++[o]) t.length=af o
 |[]=>rfl
 |_::l=>qb (t:=l)
theorem r9{o:AO}:∀{t:ae AO} {j:Nat},j≠t.length->bM (t++[o]) j=bM t j
 |[],0=>λ n=>bt rfl n
 |[],_+1=>λ aa=>rfl
 |_::_,0=>λ aa=>rfl
 |_::l,_+1=>λ n=>r9 (t:=l) λ e=>n (ah (·+1) e)
theorem s8:∀(t:ae TO) (i:Nat) (o:TO),(q5 t i o).length=t.length
 |[],_,_=>rfl
 |_::_,0,_=>rfl
 |v::r,i+1,o=>ah (·+1) (s8 r i o)
theorem GO.frame{m m':ae AO}{o:TO}{o':AO}(h:GO m o o')(k:∀q,ml o=af q->bM m' q=bM m q):GO m' o o':=by
 rcases o with _|_|_|_|_|_|_|⟨q,L⟩|_|_
 case enc=>exact cQ (λ aa=> .imp λ aa=> .imp λ aa=> .imp λ aa=> .imp_right<| .imp_left (k q rfl).trans) h
 all_goals exact h
theorem GM.at{t:ae TO}{m:ae AO}(g:GM t m){i:Nat}{o:TO}(h:gU t i=af o):∃o',bM m i=af o'/\GO m o o':=g.get i o h
theorem GM.nq{t:ae TO}{m:ae AO}(g:GM t m){i:Nat}{o:TO}(h:gU t i=af o)(nb:wG o=false)(j:Nat)(x:TO)(q:Nat)(hj:gU t j=af x)(hq:ml x=af q):q≠i:=
 λ z=>ay ((ah wG (am (h.symm.trans (z▸g.enc j x q hj hq)))).symm.trans nb)
theorem GM.set{t:ae TO}{m:ae AO}(g:GM t m){i:Nat}{o o₁:TO}{ma:AO}(h:gU t i=af o)(nb:wG o=false)(h1:GO m o₁ ma)(e1:ml o₁=none\/ml o₁=ml o):GM (q5 t i o₁) (bz m i ma):=
 have nq:=g.nq h nb
 have e2:∀q,ml o₁=af q->ml o=af q:=λ q e=>e1.elim (λ n=>cu (n.symm.trans e)) λ z=>z.symm.trans e
 ⟨(s8 ..).trans (g.len.trans (fJ ..).symm),
  λ j x hj=>o_ hj (λ z y=>z.symm▸y.symm▸⟨ma,iV (g.len▸qj h),h1.frame λ q hq=>dV (nq i o q h (e2 q hq))⟩)
   λ n hj=>(g.get j x hj).imp λ o'=> .imp (dV n).trans (GO.frame · λ q hq=>dV (nq j x q hj hq)),
  λ j x q hj hq=>o_ hj (λ aa y=>have hq:=e2 q (y▸hq); (lB (nq i o q h hq)).trans (g.enc i o q h hq)) λ aa hj=>(lB (nq j x q hj hq)).trans (g.enc j x q hj hq)⟩
theorem GM.app{t:ae TO}{m:ae AO}(g:GM t m){o:TO}{o':AO}(h:GO m o o')(e:ml o=none):GM (t++[o]) (m++[o']):=
 have nl:∀q,gU t q=af .ba->q≠m.length:=λ q hq z=>fw _ (z▸g.len▸qj hq)
 ⟨by rw[bj,bj,g.len]; rfl,
  λ j x hj=>xj hj (λ z y=>(z.trans g.len)▸y▸⟨o',qb,h.frame λ q hq=>cu (e.symm.trans hq)⟩)
   λ hj=>(g.get j x hj).imp λ o'=> .imp (r9 λ z=>fw _ (z▸g.len▸qj hj)).trans (GO.frame · λ q hq=>r9 (nl q (g.enc j x q hj hq))),
  λ j x q hj hq=>xj hj (λ aa y=>cu (e.symm.trans (y▸hq))) λ hj=>xk (g.enc j x q hj hq)⟩
noncomputable def ob{α β:Type}(x:aq α)(f:α->aq β):aq β:=Option.rec (motive:=λ aa=>aq β) none f x
theorem ob.u{α β:Type}{x:aq α}{f:α->aq β}{y:β}{Q:Prop}(h:ob x f=af y)(k:∀a,x=af a->f a=af y->Q):Q:=by
 rcases x with _|a
 ·exact cu h
 ·exact k a rfl h
theorem Mv{α β:Type}{x:aq α}{f:α->aq β}{y:β}(h:ob x f=af y):∃a,x=af a/\f a=af y:=ob.u h λ a e h=>⟨a,e,h⟩
noncomputable def nB{α:Type}(b:aC)(x:aq α):aq α:=Bool.rec (motive:=λ aa=>aq α) none x b
theorem nB.u{α:Type}{b:aC}{x:aq α}{y:α}{Q:Prop}(h:nB b x=af y)(k:b=true->x=af y->Q):Q:=by
 rcases b
 ·exact cu h
 ·exact k rfl h
noncomputable def jN{α β:Type}:(x:aq α)->((a:α)->x=af a->aq β)->aq β
 |some a,f=>f a rfl
 |none,_=>none
noncomputable def bE{β:Type}:(b:aC)->(b=true->aq β)->aq β
 |true,f=>f rfl
 |false,_=>none
theorem bE.u{β:Type}{b:aC}{f:b=true->aq β}{y:β}{Q:Prop}(h:bE b f=af y)(k:∀e:b=true,f e=af y->Q):Q:=by
 rcases b
 ·exact cu h
 ·exact k rfl h
noncomputable def oe{α:Type}(x y:aq α):aq α:=Option.rec (motive:=λ aa=>aq α) y af x
noncomputable def nR(t:TV):aq {p:Nat // t= .ex (.own p)}:=match t with
 | .ex (.own p)=>af ⟨p,rfl⟩
 |_=>none
noncomputable def S2(t:TV):aq {c:au×ae Nat×ae AV // t= .ex (.inst c.1 c.2.1 c.2.2)}:=match t with
 | .ex (.inst C ks vs)=>af ⟨(C,ks,vs),rfl⟩
 |_=>none
noncomputable def Hg(o:TO):aq {c:au×Nat // o= .inst c.1 c.2}:=match o with
 | .inst C j=>af ⟨(C,j),rfl⟩
 |_=>none
noncomputable def oNs(o:TO):aq {c:ae Nat×ae TV // o= .ns c.1 c.2}:=match o with
 | .ns ks vs=>af ⟨(ks,vs),rfl⟩
 |_=>none
noncomputable def oKs(o:TO):aq {ks:ae Nat // ∀m o',GO m o o'->∃us,o'= .ns ks us}:=match o with
 | .ns ks vs=>af ⟨ks,λ aa aa=>cQ λ aa=>eG⟩
 | .enc _ _=>af ⟨[13,14,15,16],λ aa aa g=>aD g λ aa g=>g.elim λ aa g=>g.elim λ aa g=>g.elim λ aa g=>⟨_,g.1⟩⟩
 |_=>none
noncomputable def oLst(o:TO):aq {c:ae TV // o= .lst c}:=match o with
 | .lst vs=>af ⟨vs,rfl⟩
 |_=>none
noncomputable def oIl(o:TO):aq {c:ae (Int×Int) // o= .il c}:=match o with
 | .il vs=>af ⟨vs,rfl⟩
 |_=>none
noncomputable def Y0(o:TO):aq {c:ae Int×ae TV // o= .iM c.1 c.2}:=match o with
 | .iM ks vs=>af ⟨(ks,vs),rfl⟩
 |_=>none
noncomputable def oDct(o:TO):aq {c:ae (ae Int)×ae TV // o= .bG c.1 c.2}:=match o with
 | .bG ks vs=>af ⟨(ks,vs),rfl⟩
 |_=>none
noncomputable def VZ(t:TV):aq {c:ae Int // t= .ex (.row c)}:=match t with
 | .ex (.row c)=>af ⟨c,rfl⟩
 |_=>none
noncomputable def tRw(t:TV):aq {c:ae (Int×Int) // t= .rw c}:=match t with
 | .rw c=>af ⟨c,rfl⟩
 |_=>none
noncomputable def tTp(t:TV):aq {c:TV×TV // t= .tp c.1 c.2}:=match t with
 | .tp a b=>af ⟨(a,b),rfl⟩
 |_=>none
noncomputable def lr(t:TV):aq {i:Int // t= .ex (.int i)}:=match t with
 | .ex (.int i)=>af ⟨i,rfl⟩
 |_=>none
noncomputable def VX(t:TV):aq {n:Nat // t= .JI n}:=match t with
 | .JI n=>af ⟨n,rfl⟩
 |_=>none
noncomputable def ZM(t:TV):aq {u:e9 // ∀v,GV t v->∃b,v= .bool b}:=match t with
 | .tb=>af ⟨(),λ v g=>g⟩
 | .ex (.bool b)=>af ⟨(),λ v g=>⟨b,g⟩⟩
 |_=>none
def WB(l:ae (Int×Int)):Nat->aq (Int×Int):=Xb af none l
def QC(l:ae (Int×Int))(i:Nat)(q:Int×Int):ae (Int×Int):=Nc q l i
noncomputable def tFn(t:TV):aq {g:au // t= .ex (.fn g)}:=match t with
 | .ex (.fn g)=>af ⟨g,rfl⟩
 |_=>none
noncomputable def ade(t:TV):aq {g:au // t= .ex (.val (.ref g))}:=match t with
 | .ex (.val (.ref g))=>af ⟨g,rfl⟩
 |_=>none
noncomputable def S4(t:TV):aq {u:e9 // t= .ex .none}:=match t with
 | .ex .none=>af ⟨(),rfl⟩
 |_=>none
noncomputable def D2{α β:Type}(R:(α->St->Prop)->Prop)(g:β->α->Prop)(outs:ae (β×AS)):Prop:=
 ∃a σ,(∃o∈outs,g o.1 a/\GS o.2 σ)/\∀K:α->St->Prop,K a σ->R K
def Ab{α β:Type}(ab:AS->aq (ae (β×AS)))(run:St->(α->St->Prop)->Prop)(g:β->α->Prop):Prop:=
 ∀s outs,ab s=af outs->∀σ,GS s σ->D2 (run σ) g outs
noncomputable def bOl{β γ:Type}(f:β->AS->aq (ae (γ×AS)))(l:ae (β×AS)):aq (ae (γ×AS)):=l5 (motive:=λ aa=>aq (ae (γ×AS))) (af []) (λ o aa k=>ob (f o.1 o.2) λ l=>ob k λ l'=>af (l.append l')) l
noncomputable def bO{β γ:Type}(x:aq (ae (β×AS)))(f:β->AS->aq (ae (γ×AS))):aq (ae (γ×AS)):=ob x λ l=>bOl f l
section
variable{α α' β Wm:Type}{g:β->α->Prop}{g':Wm->α'->Prop}
theorem Kq{f:β->AS->aq (ae (Wm×AS))}:∀{l:ae (β×AS)} {outs:ae (Wm×AS)},bOl f l=af outs->∀o∈l,∃l',f o.1 o.2=af l'/\∀p∈l',p∈outs
 |[],_=>λ aa aa ho=>bt ho bK
 |x::r,outs=>λ h o ho=>ob.u h λ l e h=>ob.u h λ l' e2 h=>am h▸(bQ.mp ho).elim (λ z=>z▸⟨l,e,λ aa=>dA _⟩)
   λ ho=>(Kq e2 o ho).imp λ aa=> .imp_right λ b p hp=>cD _ (b p hp)
theorem D2.up{R:(α->St->Prop)->Prop}{l l':ae (β×AS)}(h:D2 R g l)(k:∀p∈l,p∈l'):D2 R g l':=
 h.imp λ aa=> .imp λ aa=> .imp_left<| .imp λ o=> .imp_left (k o)
theorem D2.ret{b:β}{a:α}{s:AS}{σ:St}(ga:g b a)(gs:GS s σ):D2 (λ K=>K a σ) g [(b,s)]:=⟨a,σ,⟨_,be.mpr rfl,ga,gs⟩,λ aa k=>k⟩
theorem D2.u{R:(α->St->Prop)->Prop}{l:ae (β×AS)}{Q:Prop}(h:D2 R g l)(k:∀a σ b s,(b,s)∈l->g b a->GS s σ->(∀K:α->St->Prop,K a σ->R K)->Q):Q:=
 h.elim λ a h=>h.elim λ σ h=>h.1.elim λ o m=>k a σ o.1 o.2 m.1 m.2.1 m.2.2 h.2
theorem D2.bind{R:(α->St->Prop)->Prop}{l:ae (β×AS)}{f:β->AS->aq (ae (Wm×AS))}{outs:ae (Wm×AS)}{C:α->St->(α'->St->Prop)->Prop}(h:D2 R g l)(e:bOl f l=af outs)
  (k:∀b s l',f b s=af l'->∀a σ,g b a->GS s σ->D2 (C a σ) g' l'):D2 (λ K=>R λ a σ=>C a σ K) g' outs:=
 h.u λ a σ b s m ga gs r=>(Kq e _ m).elim λ l' e=>((k b s l' e.1 a σ ga gs).up e.2).imp λ aa=> .imp λ aa=> .imp_right λ r' K z=>r _ (r' K z)
theorem Ab.bind{ab:AS->aq (ae (β×AS))}{run:St->(α->St->Prop)->Prop}{f:β->AS->aq (ae (Wm×AS))}{outs:ae (Wm×AS)}{C:α->St->(α'->St->Prop)->Prop}{s:AS}{σ:St}(h:Ab ab run g)(e:bO (ab s) f=af outs)(gs:GS s σ)
  (k:∀b s l',f b s=af l'->∀a σ,g b a->GS s σ->D2 (C a σ) g' l'):D2 (λ K=>run σ λ a σ=>C a σ K) g' outs:=ob.u e λ l q e=>(h s l q σ gs).bind e k
theorem D2.eq{R R':(α->St->Prop)->Prop}{l:ae (β×AS)}(h:D2 R g l)(k:∀K,R K->R' K):D2 R' g l:=h.imp λ aa=> .imp λ aa=> .imp_right λ r K z=>k K (r K z)
theorem D2.one{b:β}{a:α}{s:AS}{σ:St}{outs:ae (β×AS)}{R:(α->St->Prop)->Prop}(h:af [(b,s)]=af outs)(ga:g b a)(gs:GS s σ)(k:∀K:α->St->Prop,K a σ->R K):D2 R g outs:=am h▸(D2.ret ga gs).eq k
end
section
variable{t t':TV}{ts:ae TV}{us:ae AV}{Q:ae AV->Prop}
theorem dH.u0(h:dH [] us)(k:Q []):Q us:=(show us=[] from h)▸k
theorem dH.uc(h:dH (t::ts) us)(k:∀u r,GV t u->dH ts r->Q (u::r)):Q us:=aD h λ u h=>h.elim λ r h=>h.1▸k u r h.2.1 h.2.2
theorem dH.u1(h:dH [t] us)(k:∀u,GV t u->Q [u]):Q us:=h.uc (Q:=Q) λ u aa g h=>h.u0 (Q:=λ r=>Q (u::r)) (k u g)
theorem dH.u2(h:dH [t,t'] us)(k:∀u v,GV t u->GV t' v->Q [u,v]):Q us:=h.uc (Q:=Q) λ u aa g h=>h.u1 (Q:=λ r=>Q (u::r)) λ v=>k u v g
theorem dH.cons{u:AV}(g:GV t u)(h:dH ts us):dH (t::ts) (u::us):=⟨u,us,rfl,g,h⟩
end
theorem dH.len:∀{ts:ae TV} {us:ae AV},dH ts us->us.length=ts.length
 |[],_=>λ h=>h.u0 (Q:=λ us=>us.length=0) rfl
 |_::ts,_=>λ h=>h.uc (Q:=λ us=>us.length=ts.length+1) λ aa aa aa h=>ah (·+1) (dH.len h)
theorem q9.u0{r:ae Int}{Q:ae Int->Prop}(h:q9 [] r)(k:Q []):Q r:=(show r=[] from h)▸k
theorem q9.uc{q:Int×Int}{qs:ae (Int×Int)}{r:ae Int}{Q:ae Int->Prop}(h:q9 (q::qs) r)(k:∀x xs,q.1<=x->x<=q.2->q9 qs xs->Q (x::xs)):Q r:=aD h λ x h=>h.elim λ xs h=>h.1▸k x xs h.2.1 h.2.2.1 h.2.2.2
theorem q9.len:∀{q:ae (Int×Int)} {r:ae Int},q9 q r->r.length=q.length
 |[],_=>λ h=>h.u0 (Q:=λ r=>r.length=0) rfl
 |_::q,_=>λ h=>h.uc (Q:=λ r=>r.length=q.length+1) λ aa aa aa aa h=>ah (·+1) h.len
theorem dH.snoc{t:TV}{u:AV}(g:GV t u):∀{ts:ae TV} {us:ae AV},dH ts us->dH (ts++[t]) (us++[u])
 |[],_=>λ h=>h.u0 (Q:=λ us=>dH [t] (us++[u])) (.cons g rfl)
 |x::ts,_=>λ h=>h.uc (Q:=λ us=>dH (x::(ts++[t])) (us++[u])) λ aa aa a h=> .cons a (dH.snoc g h)
section
variable{κ:Type}{e:κ->κ->aC}{x:κ}{t:TV}
theorem Am:∀{ks:ae κ} {ts:ae TV} {us:ae AV},dH ts us->E7 e ks ts x=af t->∃u,E7 e ks us x=af u/\GV t u
 |[],_,_=>λ aa h=>cu h
 |_::_,[],_=>λ aa h=>cu h
 |k::ks,t'::ts,_=>λ g h=>g.uc (Q:=λ us=>∃u,E7 e (k::ks) us x=af u/\GV t u) λ u us g gs=>condB h (λ e h=>⟨u,vm e,am h▸g⟩)
   λ e h=>(Am gs h).imp λ aa=> .imp_left (sL e).trans
theorem qe{u:AV}(g:GV t u):∀{ks:ae κ} {ts:ae TV} {us:ae AV},ks.length=ts.length->dH ts us->dH (jX e ks ts x t) (jX e ks us x u)
 |[],[],_=>λ aa h=>h.u0 (Q:=λ us=>dH [t] (jX e [] us x u)) (.cons g rfl)
 |k::ks,t'::ts,_=>λ l h=>h.uc (Q:=λ us=>dH (jX e (k::ks) (t'::ts) x t) (jX e (k::ks) us x u)) λ w us a h=>by
  cases q:e k x with
  |true=>rw[ou q,ou q]; exact .cons g h
  |false=>rw[lp q,lp q]; exact .cons a (qe g (eJ l) h)
 |[],_::_,_=>λ l=>bt l.symm (cy _)
 |_::_,[],_=>λ l=>bt l (cy _)
end
noncomputable def mh:TV->aq (Int×Int)
 | .ex (.int i)=>af (i,i)
 | .rg l u=>af (l,u)
 | .nr _ l u=>af (l,u)
 |_=>none
theorem mh.u{t:TV}{q:Int×Int}{v:AV}{Q:AV->Prop}(e:mh t=af q)(g:GV t v)(k:∀i,q.1<=i->i<=q.2->Q (.int i)):Q v:=by
 rcases t with w|_|_|_|_|_|_|_|_|_|_
 ·rcases w with _|_|_|i|_|_|_|_|_|_|_|_|_|_|_|_|_|_
  all_goals first|exact cu e|exact(show v=_ from g)▸k i (am e▸dT i) (am e▸dT i)
 all_goals first|exact cu e|skip
 ·exact aD g λ i g=>g.1▸k i (am e▸g.2.1) (am e▸g.2.2)
 ·exact(eG g)▸k _ (am e▸(eG (f_ g))) (am e▸(f_ (f_ g)))
noncomputable def tI(t:TV):aq {u:e9 // ∀v,GV t v->∃i,v= .int i}:=match t with
 | .ai=>af ⟨(),λ v g=>g⟩
 | .rg _ _=>af ⟨(),λ aa=>cQ λ aa=>eG⟩
 | .nr v _ _=>af ⟨(),λ aa g=>⟨v,g.1⟩⟩
 | .ex (.int i)=>af ⟨(),λ v g=>⟨i,g⟩⟩
 |_=>none
noncomputable def Sy(q:Int×Int):TV:=aX (decide (q.1=q.2)) (.ex (.int q.1)) (.rg q.1 q.2)
theorem tR{q:Int×Int}{i:Int}(h0:q.1<=i)(h1:i<=q.2):GV (Sy q) (.int i):=by
 unfold Sy
 by_cases e:q.1=q.2
 ·exact(cz e)▸ah AV.int (e7 (e▸h1) h0)
 ·exact(dj e)▸⟨i,rfl,h0,h1⟩
theorem c2{α β γ:Type}{f:α->β->γ}{a a':α}{b b':β}(h:a=a')(k:b=b'):f a b=f a' b':=h▸k▸rfl
noncomputable def yQ:ae AV->ae TV
 |v::r=> .ex v::yQ r
 |[]=>[]
theorem lj:∀l:ae AV,dH (yQ l) l
 |[]=>rfl
 |v::r=>⟨v,r,rfl,rfl,lj r⟩
noncomputable def dE{p:Prop}{β:Type}:fD p->(p->aq β)->aq β
 | .isTrue h,f=>f h
 | .isFalse _,_=>none
noncomputable def U2(v:AV):aq {l:ae AV // v= .lst l}:=match v with
 | .lst l=>af ⟨l,rfl⟩
 |_=>none
abbrev IsV(t:TV)(v:AV):Prop:=∀x,GV t x->x=v
abbrev WT(t:ae TV)(v:ae AV):Prop:=∀x,dH t x->x=v
noncomputable def toAV:(t:TV)->aq {v:AV // IsV t v}
 | .ex v=>af ⟨v,λ aa g=>g⟩
 | .tp a b=>ob (toAV a) λ x=>ob (toAV b) λ y=>af ⟨.tup [x.1,y.1],λ aa g=>aD g λ aa g=>g.elim λ aa g=>g.1.trans (c2 (f:=λ x y=>AV.tup [x,y]) (x.2 _ g.2.1) (y.2 _ g.2.2))⟩
 | .ln=>af ⟨.lst [],λ aa g=>g⟩
 | .lc h t=>ob (toAV h) λ y=>ob (toAV t) λ ys=>ob (U2 ys.1) λ l=>af ⟨.lst (y.1::l.1),λ aa g=>aD g λ aa g=>g.elim λ aa g=>g.1.trans (c2 (f:=λ x y=>AV.lst (x::y)) (y.2 _ g.2.1) (AV.lst.inj ((ys.2 _ g.2.2).trans l.2)))⟩
 | .nr v _ _=>af ⟨.int v,λ aa g=>g.1⟩
 | .rg l u=>dE (nV l u) λ h=>af ⟨.int l,λ aa g=>aD g λ i g=>g.1.trans (ah _ (e7 (h▸g.2.2) g.2.1))⟩
 |_=>none
noncomputable def toAVs:(t:ae TV)->aq {v:ae AV // WT t v}
 |[]=>af ⟨[],λ aa g=>g⟩
 |t::r=>ob (toAV t) λ x=>ob (toAVs r) λ y=>af ⟨x.1::y.1,λ aa g=>g.uc (Q:=λ z=>z=x.1::y.1) λ aa aa g1 g2=>c2 (x.2 _ g1) (y.2 _ g2)⟩
noncomputable def toIs:(q:ae (Int×Int))->aq {v:ae Int // ∀x,q9 q x->x=v}
 |[]=>af ⟨[],λ aa g=>g⟩
 |t::r=>dE (nV t.1 t.2) λ h=>ob (toIs r) λ y=>af ⟨t.1::y.1,λ aa g=>g.uc (Q:=λ z=>z=t.1::y.1) λ aa aa g0 g1 g2=>c2 (e7 (h▸g1) g0) (y.2 _ g2)⟩
theorem isU{vs:ae TV}(x:{v:ae AV // WT vs v}){f:ae AV->AO}{a:AO}(h:∃us,a=f us/\dH vs us):a=f x.1:=h.elim λ aa h=>h.1.trans (ah f (x.2 _ h.2))
def toAO(o:TO):aq {a:AO // ∀m x,GO m o x->x=a}:=match o with
 | .ns ks vs=>ob (toAVs vs) λ x=>af ⟨.ns ks x.1,λ aa aa=>isU x⟩
 | .inst C j=>af ⟨.inst C j,λ aa aa g=>g⟩
 | .lst vs=>ob (toAVs vs) λ x=>af ⟨.lst x.1,λ aa aa=>isU x⟩
 | .il q=>ob (toIs q) λ x=>af ⟨.il x.1,λ aa aa g=>aD g λ aa g=>g.1.trans (ah _ (x.2 _ g.2))⟩
 | .iM ks vs=>ob (toAVs vs) λ x=>af ⟨.iM ks x.1,λ aa aa=>isU x⟩
 | .bG ks vs=>ob (toAVs vs) λ x=>af ⟨.bG ks x.1,λ aa aa=>isU x⟩
 | .ix r=>af ⟨.il r,λ aa aa g=>g⟩
 |_=>none
abbrev JW(t:ae TO)(m:ae AO):Prop:=∀mm m',m'.length=t.length->(∀i o,gU t i=af o->∃o',bM m' i=af o'/\GO mm o o')->m'=m
theorem JW.cons{t:TO}{r:ae TO}{a:AO}{m:ae AO}(x:∀m x,GO m t x->x=a)(y:JW r m):JW (t::r) (a::m):=by
 rintro mm (_|⟨b,m'⟩) l h
 ·exact bt l.symm (cy _)
 ·exact(h 0 t rfl).elim λ o g=>c2 ((am g.1).trans (x _ _ g.2)) (y mm m' (eJ l) λ i=>h (i+1))
noncomputable def toAOs:(t:ae TO)->aq {m:ae AO // JW t m}
 |[]=>af ⟨[],λ aa m' l aa=>cZ.mp l⟩
 |t::r=>ob (toAO t) λ x=>ob (toAOs r) λ y=>af ⟨x.1::y.1,JW.cons x.2 y.2⟩
theorem St.eq{a b:St}(h:a.loc=b.loc)(k:a.mem=b.mem):a=b:=by rcases a; rcases b; exact c2 h k
def toSt(s:AS):aq {σ:St // ∀x,GS s x->x=σ}:=ob (toAVs s.loc) λ l=>ob (toAOs s.mem) λ m=>af ⟨⟨l.1,m.1⟩,λ x g=>St.eq (l.2 _ g.loc) (m.2 x.mem x.mem g.mem.len.symm g.mem.get)⟩
def acN(a:AO):aq {o:TO // ml o=none/\∀m,GO m o a}:=match a with
 | .ns ks vs=>af ⟨.ns ks (yQ vs),rfl,λ aa=>⟨vs,rfl,lj vs⟩⟩
 | .inst C j=>af ⟨.inst C j,rfl,λ aa=>rfl⟩
 | .lst vs=>af ⟨.lst (yQ vs),rfl,λ aa=>⟨vs,rfl,lj vs⟩⟩
 | .iM ks vs=>af ⟨.iM ks (yQ vs),rfl,λ aa=>⟨vs,rfl,lj vs⟩⟩
 | .bG ks vs=>af ⟨.bG ks (yQ vs),rfl,λ aa=>⟨vs,rfl,lj vs⟩⟩
 | .il r=>af ⟨.ix r,rfl,λ aa=>rfl⟩
 | .ba _=>none
 | .tab=>none
abbrev Ih(t:ae TO)(m:ae AO):Prop:=t.length=m.length/\∀i o,gU t i=af o->ml o=none/\∃a,bM m i=af a/\∀mm,GO mm o a
theorem Ih.cons{t:TO}{r:ae TO}{a:AO}{m:ae AO}(x:ml t=none/\∀m,GO m t a)(y:Ih r m):Ih (t::r) (a::m):=by
 refine⟨ah (·+1) y.1,?_⟩
 rintro (_|i) o h
 ·exact am h▸⟨x.1,a,rfl,x.2⟩
 ·exact y.2 i o h
noncomputable def Mw:(m:ae AO)->aq {t:ae TO // Ih t m}
 |[]=>af ⟨[],rfl,λ aa aa=>cu⟩
 |a::r=>ob (acN a) λ x=>ob (Mw r) λ y=>af ⟨x.1::y.1,Ih.cons x.2 y.2⟩
theorem C7{m:ae AO}{t:ae TO}(h:Ih t m):GM t m:=
 ⟨h.1,λ i o e=>(h.2 i o e).2.imp λ aa=> .imp_right (· m),λ i o q e hq=>cu ((h.2 i o e).1.symm.trans hq)⟩
def Y5(σ:St):aq {s:AS // GS s σ}:=ob (Mw σ.mem) λ t=>af ⟨⟨yQ σ.loc,t.1⟩,lj σ.loc,C7 t.2⟩
noncomputable abbrev tA(R:(AV->St->Prop)->Prop)(r:AV×St):Prop:=∀K:AV->St->Prop,K r.1 r.2->R K
def exO{R:(AV->St->Prop)->Prop}(x:aq {r:AV×St // tA R r}):aq (ae (TV×AS)):=ob x λ r=>ob (Y5 r.1.2) λ s=>af [(.ex r.1.1,s.1)]
theorem K2{R:(AV->St->Prop)->Prop}{x:aq {r:AV×St // tA R r}}{outs:ae (TV×AS)}(h:exO x=af outs):D2 R GV outs:=
 ob.u h λ r aa h=>ob.u h λ s aa h=>D2.one h rfl s.2 r.2
def XG{lY:AV->St->(AV->St->Prop)->Prop}(g:(a:AV)->(σ:St)->aq {r:AV×St // tA (lY a σ) r})(t:TV)(s:AS):aq (ae (TV×AS)):=ob (toAV t) λ a=>ob (toSt s) λ σ=>exO (g a.1 σ.1)
theorem z5{lY:AV->St->(AV->St->Prop)->Prop}{g:(a:AV)->(σ:St)->aq {r:AV×St // tA (lY a σ) r}}:∀t s outs a σ,XG g t s=af outs->GV t a->GS s σ->D2 (lY a σ) GV outs:=λ aa aa aa aa aa h ga gs=>
 ob.u h λ a' aa h=>ob.u h λ b7 aa h=>(a'.2 _ ga).symm▸(b7.2 _ gs).symm▸K2 h
def ex2{lY:AV->AV->St->(AV->St->Prop)->Prop}(g:(a b:AV)->(σ:St)->aq {r:AV×St // tA (lY a b σ) r})(t u:TV)(s:AS):aq (ae (TV×AS)):=ob (toAV t) λ a=>ob (toAV u) λ b=>ob (toSt s) λ σ=>exO (g a.1 b.1 σ.1)
theorem T7{lY:AV->AV->St->(AV->St->Prop)->Prop}{g:(a b:AV)->(σ:St)->aq {r:AV×St // tA (lY a b σ) r}}:∀t u s outs a b σ,ex2 g t u s=af outs->GV t a->GV u b->GS s σ->D2 (lY a b σ) GV outs:=λ aa aa aa aa aa aa aa h ga gb gs=>
 ob.u h λ a' aa h=>ob.u h λ b' aa h=>ob.u h λ b7 aa h=>(a'.2 _ ga).symm▸(b'.2 _ gb).symm▸(b7.2 _ gs).symm▸K2 h
noncomputable def mE(A:bn)(d:Nat):Prop:=A.depth+3 * d < 990/\A.units+12 * d < 9800/\A.handled=none
theorem mE.less{A:bn}{d e:Nat}(h:mE A d)(le:e<=d):mE A e:=⟨aT (hH (jE 3 le) _) h.1,aT (hH (jE 12 le) _) h.2.1,h.2.2⟩
noncomputable def tz(K:eI)(C:au)(x:bI):aC:=
 plainGet K C x&&hasDictIn K C&&(match findIn K (.ref C) x with|some a=>noGet K a|none=>false)&&
 (findIn K (.ref C) "__setattr__"==af (af (.builtin "object.__setattr__")))&&plainOver K C&&(takerIn K C x==af none)
noncomputable def xW(K:eI)(C fi:au):aC:=makesIn K C&&(findIn K (.ref C) "__init__"==af (af (.ref fi)))&&(typeIn K (.ref fi)==af (.type "function"))&&keepIn K (.ref C)
noncomputable def nI(K:eI)(C:au)(x:bI)(g:au):aC:=plainGet K C x&&(findIn K (.ref C) x==af (af (.ref g)))&&(typeIn K (.ref g)==af (.type "function"))&&fnIn K g
theorem aF{a b:aC}(h:(a&&b)=true):a=true/\b=true:=bN.mp h
noncomputable def kE(e:aB):Nat:=match e with
 | .Slice .. =>1
 | .ListComp .. =>2
 | .SetComp .. =>2
 | .DictComp .. =>2
 | .Set .. =>3
 | .UnaryOp .. =>4
 | .BoolOp .. =>4
 | .IfExp .. =>4
 | .Compare .. =>4
 | .Call .. =>5
 | .Name .. =>6
 |_=>0
noncomputable def vt(n:Nat)(e:aB):aC:=!a_ (kE e) n
noncomputable def isNm(e:aB):aC:=a_ (kE e) 6
theorem HE{i:aB}(h:vt 1 i=true):(∀o v,subscripted i false o v=DZ [o,v] (getItem o v))/\∀ov iv new,augStore i ov iv new=(do holding [new,ov,iv] (eT ov iv new); release [new,ov,iv] []; pure .next):=by
 cases i
 case Slice=>exact ay h
 all_goals exact⟨λ aa aa=>rfl,λ aa aa aa=>rfl⟩
theorem HI{e:aB}(h:vt 2 e=true){t:aq aB}{l:Nat}{env:Env}:oD e t l env=pure false:=by
 cases e
 case ListComp=>exact ay h
 case SetComp=>exact ay h
 case DictComp=>exact ay h
 all_goals rfl
theorem xi{e:aB}(h:vt 3 e=true):(∀env x,ef e env x=pure x)/\∀op,pN op e=false:=by
 cases e
 case Set=>exact ay h
 all_goals exact⟨λ aa aa=>rfl,λ aa=>rfl⟩
theorem ZW{e:aB}(h:vt 4 e=true){env:Env}{whole:ie ak}:isTrue e env whole=(do let v ← whole; dp e.pos; holding [v] (truthy v)):=by
 cases e
 case UnaryOp=>exact ay h
 case BoolOp=>exact ay h
 case IfExp=>exact ay h
 case Compare=>exact ay h
 all_goals rfl
theorem RT{e:aB}(h:vt 5 e=true)(x:bI)(env:Env)(whole:ie ak):attributeBase e x env whole=whole:=by
 cases e
 case Call=>exact ay h
 all_goals rfl
theorem wQ{e:aB}(h:isNm e=true):∃x q,e= .Name x q:=by
 cases e
 case Name=>exact⟨_,_,rfl⟩
 all_goals exact ay h
theorem mc_eq{o:aB}{args:ae (aC×ie ak)}{ap p:c9}{n:Nat}(hp:(ap.endLine==p.line)=true)(hf:methodCallForm n args []=true)(x:bI)(env:Env)(ov:ak):methodCall o x ap p env ov n args []=(do
   let (f,first) ← holding [ov] (fG ov x (do return (← importBound o env).getD true))
   callWith p f first args []):=by
 unfold methodCall
 rw[hf,show methodCallPos true o env ap p=pure p from dq hp]
 rfl
noncomputable abbrev Qe(o:aB)(as:ae aB)(ap p:c9)(x:bI)(env:Env):Prop:=∃pl,eval (.Call (.Attribute o x ap) as [] p) env=(do
   let ov ← eval o env
   dp ap.atName
   let (f,first) ← holding [ov] (fG ov x pl)
   callWith p f first (backTo p (fB as env)) [])
noncomputable def mtB(o:aB)(as:ae aB)(ap p:c9):aC:=vt 5 o&&(ap.endLine==p.line&&fu as.length 30)
theorem Hb{o:aB}{as:ae aB}{ap p:c9}(h:mtB o as ap p=true)(x:bI)(env:Env)(ha:(backTo p (fB as env)).any (·.1)=false):Qe o as ap p x env:=by
 have h:=bN.mp h
 have h2:=bN.mp h.2
 have hf:methodCallForm as.length (backTo p (fB as env)) []=true:=bN.mpr ⟨bN.mpr ⟨(List.not_any_eq_all_not ..).symm.trans (ah Bool.not ha),rfl⟩,cz (aQ h2.2)⟩
 refine⟨(do return (← importBound o env).getD true:ie aC),Eq.trans (b:=do
  let ov ← attributeBase o x env (eval o env)
  dp ap.atName
  methodCall o x ap p env ov as.length (backTo p (fB as env)) []) rfl ?_⟩
 rw[RT h.1]
 exact ah (eval o env>>=·) (funext λ ov=>ah (λ m=>dp ap.atName>>=λ aa=>m) (mc_eq h2.1 hf x env ov))
structure cC where
 prog:aK
 w:bw
 K:eI
 gl:ae (bI×AV)
 at_:au->Nat->aC
 Φ:BM->Prop
 d:Nat
 j:aC
 mono:∀G G',dG G G'->Φ G->Φ G'
 base:∀G,Φ G->∃B p loose mg mb,K.In B/\nZ p loose mg mb B/\∀a o,B.get? a=af o->G a=af o
 glob:∀G x v ρ,Φ G->gl.lookup x=af v->∃u,nsIn K dk x=af (af u)/\VR G ρ v u
 attr:∀C x,at_ C x=true->x < NM/\tz K C (nm x)=true
 Jl:∀G,Φ G->∃o,G di=af o
 blt:ae bI
 yD:∀x,blt.contains x=true->nsIn K dk x=af none/\x≠"__name__"
 init:au->aq au
 EW:∀C fi,init C=af fi->xW K C fi=true
 tP:au->Nat->aq au
 Fb:∀C x g,tP C x=af g->x < NM/\nI K C (nm x) g=true
 cB:au->ae TV->ae TO->aq (ae (TV×ae TO))
noncomputable def cC.up(P:cC):cC:={P with d:=P.d+1}
noncomputable def cC.dn(P:cC):cC:={P with d:=P.d - 1}
structure Ct where
 names:ae (bI×dJ)
 aS:ae bI
 ro:aC:=false
 tb:aC:=false
 cq:aC:=false
noncomputable def wi:au:=681
noncomputable def dM:au:=677
noncomputable def UQ:bI:=bT "scan_conditioning"++".<locals>."
noncomputable def o4{α:Type}(o:aq α)(p:α->aC):aC:=match o with
 |some x=>p x
 |none=>false
theorem f9{α:Type}{o:aq α}{p:α->aC}{Q:Prop}(h:o4 o p=true)(k:∀x,o=af x->p x=true->Q):Q:=by
 rcases o with _|x
 ·exact ay h
 ·exact k x rfl h
noncomputable def iVB(i:Int)(v:ak):aC:=match v with
 | .int j _=>decide (i=j)
 |_=>false
theorem LD{i:Int}{v:ak}(h:iVB i v=true):∃t,v= .int i t:=by
 rcases v with _|_|_|_|⟨j,t⟩|_|_|_|_|_|_
 case int=>exact⟨t,ah (eC · t) (bg h).symm⟩
 all_goals exact ay h
noncomputable def wZ(v:ak)(p:au->aC):aC:=match v with
 | .ref a=>p a
 |_=>false
theorem lA{v:ak}{p:au->aC}(h:wZ v p=true):∃a,v= .ref a/\p a=true:=by
 rcases v with _|_|_|_|_|_|_|_|_|_|a
 case ref=>exact⟨a,rfl,h⟩
 all_goals exact ay h
noncomputable def tyB(v:ak)(n:cS):aC:=match v with
 | .type t=>t==n
 |_=>false
theorem FK{v:ak}{n:cS}(h:tyB v n=true):v= .type n:=by
 rcases v with _|_|_|_|_|_|_|_|t|_|_
 case type=>exact ah cR (a4.mp h)
 all_goals exact ay h
noncomputable def Na(o:Obj)(p:ae ak->aC):aC:=match o.data with
 | .seq vs _=>p vs.toList
 |_=>false
theorem AE{o:Obj}{p:ae ak->aC}(h:Na o p=true):∃vs n,o.data= .seq vs n/\p vs.toList=true:=by
 obtain⟨c,d,dt,sl⟩:=o
 cases dt
 case seq vs n=>exact⟨vs,n,rfl,h⟩
 all_goals exact ay h
noncomputable def plB(d:Data):aC:=match d with
 | .plain=>true
 |_=>false
theorem Vi{d:Data}(h:plB d=true):d= .plain:=by
 cases d
 case plain=>rfl
 all_goals exact ay h
noncomputable def XT(o:Obj)(p:bD ak->aC):aC:=match o.data with
 | .fields vs=>p vs
 |_=>false
theorem Ps{o:Obj}{p:bD ak->aC}{Q:Prop}(h:XT o p=true)(k:∀vs,o.data= .fields vs->p vs=true->Q):Q:=by
 obtain⟨c,d,dt,sl⟩:=o
 cases dt
 case fields vs=>exact k vs rfl h
 all_goals exact ay h
noncomputable def ZJ(v:ak):aC:=match v with
 | .str _ _=>true
 |_=>false
noncomputable def UC(v:ak):aC:=match v with
 | .int _ _=>true
 |_=>false
noncomputable def Xo(v:ak):aC:=match v with
 | .bool _=>true
 |_=>false
def bmB(K:eI):aC:=o4 (nsIn K dk "__builtins__") λ r=>o4 r λ v=>wZ v λ bm=>o4 (K.lookup bm) λ o=>tyB o.cls "module"&&(o4 o.dict (a_ · la)&&(plB o.data&&(!a_ bm la&&(!a_ bm dk&&!a_ bm dM))))
def kH(K:eI):aC:=bmB K&&o4 (K.lookup wi) λ o=>tyB o.cls "code"&&XT o λ vs=>o4 (vs[11]?:aq ak) λ v=>wZ v (a_ · dM)&&(ZJ (vs.getD 18 .none)&&(UC (vs.getD 7 .none)&&(Xo (vs.getD 9 .none)&&UC (vs.getD 10 .none))))
noncomputable def GK(g g':bD d7):Prop:=(∀(i:Nat) (x:d7),g[i]?=af x->g'[i]?=af x)/\(AllBare g->AllBare g')
theorem GK.trans{a b c:bD d7}(x:GK a b)(y:GK b c):GK a c:=⟨λ i v e=>y.1 i v (x.1 i v e),λ h=>y.2 (x.2 h)⟩
def GZ(s s':ar):Prop:=GK s.gens s'.gens/\s'.os=s.os
theorem GZ.of{s s':ar}(z:s'.gens=s.gens/\s'.gens=s.gens/\s'.os=s.os):GZ s s':=⟨by rw[z.1]; exact⟨λ aa aa e=>e,id⟩,z.2.2⟩
theorem GZ.trans{a b c:ar}(x:GZ a b)(y:GZ b c):GZ a c:=⟨x.1.trans y.1,y.2.trans x.2⟩
inductive WQ(G:BM)(ρ:ae au)(s:ar)(K:AV->ae AO->Prop)(v:ak)(s':ar):Prop
 |mk (G':BM) (ρ':ae au) (av:AV) (mem':ae AO) (h:dG G G'/\Ext ρ ρ'/\RM G' ρ' mem' s'.heap/\VR G' ρ' av v/\K av mem') (kp:∀a o,a∉ρ->s.heap.get? a=af o->s'.heap.get? a=af o)
  (nw:∀a∈ρ',a∈ρ\/s.heap.get? a=none) (gf:∀a o,G' a=af o->G a=af o\/s.heap.get? a=none) (gz:GZ s s')
def Hk(Q:ak->ar->Prop)(r:iQ)(s':ar):Prop:=match r with | .ok (.ret v)=>Q v s'|_=>False
structure WC(P:cC)(f:au)(dx:ae AV)(mem:ae AO)(K:AV->ae AO->Prop):Prop where
 run:∀(A:bn) (G:BM) (ρ:ae au) (s:ar) (vs:ae ak),mE A P.d->P.Φ G->RM G ρ mem s.heap->bJ G ρ dx vs->
  dP P.j (aE P.prog P.w) A (.call (.ref f) ⟨vs,[]⟩) (Hk (WQ G ρ s K)) s
def DW(P:cC)(f:au)(vs:ae AV)(m:ae AO)(outs:ae (TV×ae TO)):Prop:=∃v m',(∃o∈outs,GV o.1 v/\GM o.2 m')/\WC P f vs m λ v' U4=>v'=v/\U4=m'
def l6(P:cC):Prop:=∀f ts tm outs,P.cB f ts tm=af outs->∀vs m,dH ts vs->GM tm m->DW P.dn f vs m outs
structure Fd where
 A:bn
 env:Env
 h₀:Heap
 gJ:ae au
 G₀:BM
 Z:ar
 ro:aC
noncomputable def At(env:Env)(h:Heap)(x:bI)(u:ak):Prop:=
 (env.kindOf x=af .local/\∃m,h.Ns env.locals m/\m x=af u)\/
 ((env.kindOf x=af .cell\/env.kindOf x=af .free)/\∃c,env.cells.lookup x=af c/\h.IsCell c (af u))
theorem At.keeps{env:Env}{h h':Heap}{x:bI}{u:ak}(a:At env h x u)(kL:∀o,h.get? env.locals=af o->h'.get? env.locals=af o)
  (kc:∀y c o,env.cells.lookup y=af c->h.get? c=af o->h'.get? c=af o):At env h' x u:=
 a.imp (.imp_right<| .imp λ aa=> .imp_left<| .imp λ aa=> .imp λ aa=> .imp λ aa=> .imp_left (kL _))
  (.imp_right<| .imp λ c k=>⟨k.1,k.2.imp λ o=> .imp_left (kc x c o k.1)⟩)
noncomputable def Fd.free(F:Fd)(a:au):Prop:=a≠F.env.locals/\(F.ro=false->∀x,F.env.kindOf x=af .cell->F.env.cells.lookup x≠af a)
structure gM(P:cC)(ct:Ct)(F:Fd):Prop where
 kind:F.env.scope.kind= .function
 names:F.env.scope.names=ct.names
 glob:F.env.globals=dk
 blt:F.env.builtins=la
 room:mE F.A P.d
 i8:P.Φ F.G₀
 vA:ct.aS.Nodup
 ro:F.ro=ct.ro
 cells:∀x,ct.names.lookup x=af .cell->∃c,F.env.cells.lookup x=af c
 tb:ct.tb=true->F.gJ[0]?=af dM
 cq:ct.cq=true->F.env.code= .ref wi/\F.env.qual=UQ/\kH P.K=true
structure RF(F:Fd)(aS:ae bI)(G:BM)(ρ:ae au)(σ:St)(s:ar):Prop where
 rm:RM G ρ σ.mem s.heap
 ns:∃m,s.heap.Ns F.env.locals m
 loc:∀(i:Nat) (x:bI) (v:AV),aS[i]?=af x->σ.loc[i]?=af v->v≠ .undef->∃u,VR G ρ v u/\At F.env s.heap x u
 lG:G F.env.locals=none
 Bi:F.env.locals∉ρ
 cell:∀x c,F.env.cells.lookup x=af c->c≠F.env.locals/\c∉ρ/\(∃v,s.heap.IsCell c v)/\(F.env.kindOf x=af .cell->G c=none)
 p6:∀x y c,F.env.cells.lookup x=af c->F.env.cells.lookup y=af c->x=y
 keep:∀a o,a∉F.gJ->F.free a->F.h₀.get? a=af o->s.heap.get? a=af o
 live:∀a o,F.h₀.get? a=af o->∃o',s.heap.get? a=af o'
 ext:Ext F.gJ ρ
 nw:∀a∈ρ,a∈F.gJ\/F.h₀.get? a=none
 Cp:dG F.G₀ G
 Bh:∀a o,G a=af o->F.G₀ a=af o\/F.h₀.get? a=none
 gz:GZ F.Z s
section
variable{F:Fd}{aS:ae bI}{G G':BM}{ρ ρ':ae au}{σ:St}{s s':ar}
theorem RF.lo(R:RF F aS G ρ σ s):∃o,s.heap.get? F.env.locals=af o:=R.ns.elim λ aa h=>h.imp λ aa h=>h.elim λ aa h=>h.elim λ aa h=>h.1
theorem RF.co(R:RF F aS G ρ σ s){x:bI}{c:au}(e:F.env.cells.lookup x=af c):∃o,s.heap.get? c=af o:=(R.cell x c e).2.2.1.elim λ aa h=>h.imp λ aa=>eG
theorem RF.dead(R:RF F aS G ρ σ s){a:au}(h:s.heap.get? a=none):F.h₀.get? a=none:=none_of λ o e=>(R.live a o e).elim λ aa=>dh h
theorem RF.HF(R:RF F aS G ρ σ s){mem':ae AO}(x:Ext ρ ρ')(g:dG G G')(M:RM G' ρ' mem' s'.heap)
  (nw:∀a∈ρ',a∈ρ\/s.heap.get? a= .none) (gn:∀a o,G' a=af o->G a=af o\/s.heap.get? a= .none)
  (kp:∀a o,a∉ρ->s.heap.get? a=af o->s'.heap.get? a=af o) (z:GZ s s'):RF F aS G' ρ' ⟨σ.loc,mem'⟩ s':=
 have kc:∀y c o,F.env.cells.lookup y=af c->s.heap.get? c=af o->s'.heap.get? c=af o:=λ y c o e q=>kp c o (R.cell y c e).2.1 q
 have Cq:∀a,G a=none->(∃o,s.heap.get? a=af o)->G' a=none:=λ a n y=>none_of λ o q=>(gn _ _ q).elim (dh n) λ q=>y.elim λ aa=>dh q
 have SC:∀a,a∉ρ->(∃o,s.heap.get? a=af o)->a∉ρ':=λ a n y hm=>(nw _ hm).elim n λ q=>y.elim λ aa=>dh q
 {rm:=M
  ns:=R.ns.imp λ aa=> .imp λ aa=> .imp λ aa=> .imp λ aa=> .imp_left (kp _ _ R.Bi)
  loc:=λ i x' v e e' n=>(R.loc i x' v e e' n).imp λ aa=> .imp (VR.up g x v) (At.keeps · (λ o e=>kp _ o R.Bi e) kc)
  lG:=Cq _ R.lG R.lo
  Bi:=SC _ R.Bi R.lo
  cell:=λ x' c e=>have h:=R.cell x' c e; ⟨h.1,SC c h.2.1 (R.co e),h.2.2.1.imp λ aa=> .imp λ o=> .imp_left (kc x' c o e),λ k=>Cq c (h.2.2.2 k) (R.co e)⟩
  p6:=R.p6
  keep:=λ a o n f e=>kp a o (λ hm=>(R.nw a hm).elim n λ q=>dh q e) (R.keep a o n f e)
  live:=λ a o e=>(R.live a o e).elim λ o' e'=>(d5 (a∈ρ)).elim (λ n=>M.some_of (x.mem n)) λ n=>⟨o',kp a o' n e'⟩
  ext:=R.ext.trans x
  nw:=λ a ha=>(nw a ha).elim (R.nw a) λ q=> .inr (R.dead q)
  Cp:=R.Cp.trans g
  Bh:=λ a o e=>(gn a o e).elim (R.Bh a o) λ q=> .inr (R.dead q)
  gz:=R.gz.trans z}
theorem RF.step(R:RF F aS G ρ σ s){mem':ae AO}(x:Ext ρ ρ')(g:dG G G')(M:RM G' ρ' mem' s'.heap)
  (nw:∀a∈ρ',a∈ρ\/s.heap.get? a= .none) (gn:∀a o,G' a=af o->G a=af o\/s.heap.get? a= .none)
  (kp:∀a o,a∉ρ->s.heap.get? a=af o->s'.heap.get? a=af o) (z:s'.gens=s.gens/\s'.gens=s.gens/\s'.os=s.os):RF F aS G' ρ' ⟨σ.loc,mem'⟩ s':=R.HF x g M nw gn kp (GZ.of z)
theorem RF.toks(R:RF F aS G ρ σ s)(t:Nat):RF F aS G ρ σ {s with toks:=t}:=
 ⟨R.rm,R.ns,R.loc,R.lG,R.Bi,R.cell,R.p6,R.keep,R.live,R.ext,R.nw,R.Cp,R.Bh,R.gz⟩
theorem RF.grow(R:RF F aS G ρ σ s)(k:∀a o,s.heap.get? a=af o->s'.heap.get? a=af o)(z:s'.gens=s.gens/\s'.gens=s.gens/\s'.os=s.os):RF F aS G ρ σ s':=
 R.step (Ext.refl ρ) (dG.refl _) (R.rm.keeps k) (λ aa h=> .inl h) (λ aa aa e=> .inl e) (λ a o aa e=>k a o e) z
theorem RF.turn(R:RF F aS G ρ σ s){i:Nat}{a:au}{v8:AO}{o':Obj}(hi:ρ[i]?=af a)(he:s'.heap.get? a=af o')(q:OR G ρ v8 o')
  (k:∀b o,b≠a->s.heap.get? b=af o->s'.heap.get? b=af o) (z:s'.gens=s.gens/\s'.gens=s.gens/\s'.os=s.os):RF F aS G ρ ⟨σ.loc,σ.mem.set i v8⟩ s':=
 R.step (Ext.refl ρ) (dG.refl _) (R.rm.turn hi he q k) (λ aa h=> .inl h) (λ aa aa e=> .inl e) (λ b o n e=>k b o (λ z=>n (z▸im hi)) e) z
theorem RF.new(R:RF F aS G ρ σ s){a:au}{ao:AO}{o:Obj}(ha:s.heap.get? a= .none)(he:s'.heap.get? a=af o)(q:OR G (ρ++[a]) ao o)
  (k:∀b o,s.heap.get? b=af o->s'.heap.get? b=af o) (z:s'.gens=s.gens/\s'.gens=s.gens/\s'.os=s.os):RF F aS G (ρ++[a]) ⟨σ.loc,σ.mem++[ao]⟩ s':=
 R.step (Ext.snoc ρ a) (dG.refl _) (R.rm.new ha he q k) (λ b hb=>(fQ.mp hb).imp_right λ hb=>(be.mp hb:b=a)▸ha) (λ aa aa e=> .inl e) (λ b o aa e=>k b o e) z
theorem RF.freeze(R:RF F aS G ρ σ s){a:au}{o:Obj}(ha:s.heap.get? a= .none)(he:s'.heap.get? a=af o)
  (k:∀b o,s.heap.get? b=af o->s'.heap.get? b=af o) (z:s'.gens=s.gens/\s'.gens=s.gens/\s'.os=s.os):RF F aS (G.with a o) ρ σ s'/\dG G (G.with a o):=by
 have q:=R.rm.freeze ha he k
 exact⟨R.step (Ext.refl ρ) q.2 q.1 (λ aa h=> .inl h) (λ b o' e=>BM.Hj e (λ z aa=> .inr (z▸ha)) .inl) (λ b o aa e=>k b o e) z,q.2⟩
end
inductive PE(F:Fd)(aS:ae bI)(G:BM)(ρ:ae au)(Kv:AV->St->Prop)(v:ak)(s':ar):Prop
 |mk (G':BM) (ρ':ae au) (av:AV) (b7:St) (g:dG G G') (x:Ext ρ ρ') (R:RF F aS G' ρ' b7 s') (va:VR G' ρ' av v) (k:Kv av b7)
noncomputable abbrev dw:ak->ar->Prop:=λ aa aa=>False
inductive PB(F:Fd)(aS:ae bI)(G:BM)(ρ:ae au)(Kb:aC->St->Prop)(b:aC)(s':ar):Prop
 |mk (G':BM) (ρ':ae au) (b7:St) (g:dG G G') (x:Ext ρ ρ') (R:RF F aS G' ρ' b7 s') (k:Kb b b7)
inductive Fl where
 |d8|ret (v:AV)
def FR(G:BM)(ρ:ae au):Fl->my->Prop
 | .d8,f=>f= .next
 | .ret av,f=>∃v,f= .ret v/\VR G ρ av v
inductive PF(F:Fd)(aS:ae bI)(G:BM)(ρ:ae au)(Kf:Fl->St->Prop)(f:my)(s':ar):Prop
 |mk (G':BM) (ρ':ae au) (fl:Fl) (b7:St) (g:dG G G') (x:Ext ρ ρ') (R:RF F aS G' ρ' b7 s') (fr:FR G' ρ' fl f) (k:Kf fl b7)
inductive PL(F:Fd)(aS:ae bI)(G:BM)(ρ:ae au)(Kv:ae AV->St->Prop)(vs:ae ak)(s':ar):Prop
 |mk (G':BM) (ρ':ae au) (dx:ae AV) (b7:St) (g:dG G G') (x:Ext ρ ρ') (R:RF F aS G' ρ' b7 s') (va:bJ G' ρ' dx vs) (k:Kv dx b7)
section
variable{F:Fd}{aS:ae bI}{G G':BM}{ρ ρ':ae au}
theorem PE.u{Kv:AV->St->Prop}{v:ak}{s:ar}{Q:Prop}(z:PE F aS G ρ Kv v s)(k:∀G' ρ' av b7,dG G G'->Ext ρ ρ'->RF F aS G' ρ' b7 s->VR G' ρ' av v->Kv av b7->Q):Q:=PE.casesOn (motive:=λ aa=>Q) z k
theorem PB.u{Kv:aC->St->Prop}{v:aC}{s:ar}{Q:Prop}(z:PB F aS G ρ Kv v s)(k:∀G' ρ' b7,dG G G'->Ext ρ ρ'->RF F aS G' ρ' b7 s->Kv v b7->Q):Q:=PB.casesOn (motive:=λ aa=>Q) z k
theorem PF.u{Kv:Fl->St->Prop}{v:my}{s:ar}{Q:Prop}(z:PF F aS G ρ Kv v s)(k:∀G' ρ' fl b7,dG G G'->Ext ρ ρ'->RF F aS G' ρ' b7 s->FR G' ρ' fl v->Kv fl b7->Q):Q:=PF.casesOn (motive:=λ aa=>Q) z k
theorem PL.u{Kv:ae AV->St->Prop}{v:ae ak}{s:ar}{Q:Prop}(z:PL F aS G ρ Kv v s)(k:∀G' ρ' av b7,dG G G'->Ext ρ ρ'->RF F aS G' ρ' b7 s->bJ G' ρ' av v->Kv av b7->Q):Q:=PL.casesOn (motive:=λ aa=>Q) z k
theorem PE.up{Kv:AV->St->Prop}{v:ak}{s:ar}(g:dG G G')(x:Ext ρ ρ')(h:PE F aS G' ρ' Kv v s):PE F aS G ρ Kv v s:=h.u λ a b c d e f=> .mk a b c d (g.trans e) (x.trans f)
theorem PB.up{Kv:aC->St->Prop}{v:aC}{s:ar}(g:dG G G')(x:Ext ρ ρ')(h:PB F aS G' ρ' Kv v s):PB F aS G ρ Kv v s:=h.u λ a b d e f=> .mk a b d (g.trans e) (x.trans f)
theorem PF.up{Kv:Fl->St->Prop}{v:my}{s:ar}(g:dG G G')(x:Ext ρ ρ')(h:PF F aS G' ρ' Kv v s):PF F aS G ρ Kv v s:=h.u λ a b c d e f=> .mk a b c d (g.trans e) (x.trans f)
theorem PE.here{Kv:AV->St->Prop}{av:AV}{σ:St}{v:ak}{s:ar}(R:RF F aS G ρ σ s)(h:VR G ρ av v)(k:Kv av σ):PE F aS G ρ Kv v s:=⟨G,ρ,av,σ,dG.refl _,Ext.refl _,R,h,k⟩
end
inductive AF where
 |d8|ret (v:TV)
def GF:AF->Fl->Prop
 | .d8,f=>f= .d8
 | .ret t,f=>∃v,f= .ret v/\GV t v
structure SE(P:cC)(ct:Ct) where
 bA:aB
 run:St->(AV->St->Prop)->Prop
 ch:aC
 star:∀r env,fB (bA::r) env=(false,eval bA env)::fB r env
 ok:ch=true->∀F G ρ σ s Kv,gM P ct F->RF F ct.aS G ρ σ s->run σ Kv->cL P.j (aE P.prog P.w) F.A (eval bA F.env) (PE F ct.aS G ρ Kv) s
 ab:AS->aq (ae (TV×AS)):=λ aa=>none
 cO:l6 P->Ab ab run GV:=by nofun
structure ST(P:cC)(ct:Ct) where
 bA:aB
 run:St->(aC->St->Prop)->Prop
 ch:aC
 ok:ch=true->∀F G ρ σ s Kv,gM P ct F->RF F ct.aS G ρ σ s->run σ Kv->cL P.j (aE P.prog P.w) F.A (isTrue bA F.env (eval bA F.env)) (PB F ct.aS G ρ Kv) s
 ab:AS->aq (ae (aC×AS)):=λ aa=>none
 cO:l6 P->Ab ab run Eq:=by nofun
structure SX(P:cC)(ct:Ct) where
 bA:f0
 run:St->(Fl->St->Prop)->Prop
 ch:aC
 ok:ch=true->∀F G ρ σ s Kv,gM P ct F->RF F ct.aS G ρ σ s->run σ Kv->cL P.j (aE P.prog P.w) F.A (exec bA F.env) (PF F ct.aS G ρ Kv) s
 ab:AS->aq (ae (AF×AS)):=λ aa=>none
 cO:l6 P->Ab ab run GF:=by nofun
structure SS(P:cC)(ct:Ct) where
 bA:ae f0
 run:St->(Fl->St->Prop)->Prop
 ch:aC
 ok:ch=true->∀F G ρ σ s Kv,gM P ct F->RF F ct.aS G ρ σ s->run σ Kv->cL P.j (aE P.prog P.w) F.A (execs bA F.env) (PF F ct.aS G ρ Kv) s
 ab:AS->aq (ae (AF×AS)):=λ aa=>none
 cO:l6 P->Ab ab run GF:=by nofun
section
variable{P:cC}{ct:Ct}
noncomputable def ym(i:Int)(p:c9):SE P ct where
 bA:= .Constant (.int i) 0 p
 run:=λ σ K=>K (.int i) σ
 ch:=true
 star:=λ aa aa=>rfl
 ok:=λ aa F G ρ σ s Kv aa R h=>X.any<|wpAny_Constant_int (PE.here (R.toks _) VR.mF h)
 ab:=λ s=>af [(.ex (.int i),s)]
 cO:=λ aa s outs h σ gs=>D2.one h rfl gs λ aa k=>k
noncomputable def zw(k:Nat)(p:c9):SE P ct where
 bA:= .Constant .none k p
 run:=λ σ K=>K .none σ
 ch:=true
 star:=λ aa aa=>rfl
 ok:=λ aa F G ρ σ s Kv aa R h=>λ aa aa aa aa=>PE.here R VR.none_ h
 ab:=λ s=>af [(.ex .none,s)]
 cO:=λ aa s outs h σ gs=>D2.one h rfl gs λ aa k=>k
noncomputable def sNo(e:f0):SX P ct where
 bA:=e
 run:=λ aa aa=>False
 ch:=true
 ok:=λ aa F G ρ σ s Kv aa R h=>h.elim
noncomputable def Ar(ct:Ct)(i:Nat)(x:bI):aC:=(ct.aS[i]?==af x)&&!(x==bT "__debug__")&&!(x==bT "__classdict__")
theorem nb:∀{b:aC},(!b)=true->b=false
 |false=>λ aa=>rfl
 |true=>λ h=>ay h
theorem y7{ct:Ct}{i:Nat}{x:bI}(c:Ar ct i x=true):ct.aS[i]?=af x/\(x==bT "__debug__")=false/\(x==bT "__classdict__")=false:=
 ⟨a4.mp (aF (aF c).1).1,nb (aF (aF c).1).2,nb (aF c).2⟩
def fC(l:ae AV):Nat->AV:=Xb id .undef l
theorem qy:∀(l:ae AV) (i:Nat) (v:AV),fC l i=v->v≠ .undef->l[i]?=af v
 |[],i,v,h,n=>bt h.symm n
 |u::_,0,v,h,_=>ah af h
 |_::r,i+1,v,h,n=>qy r i v h n
def ldK(v:AV)(σ:St)(K:AV->St->Prop):Prop:=match v with
 | .undef=>False
 |v=>K v σ
theorem UY{v:AV}{σ:St}{K:AV->St->Prop}(h:ldK v σ K):v≠ .undef/\K v σ:=
 have n:v≠ .undef:=λ e=>by rw[e] at h; exact h
 ⟨n,by rcases v with _|_|_|_|_|_|_|_|_|_|_|_|_|_|_|_|_|_; exact(n rfl).elim; all_goals exact h⟩
theorem Qa{F:Fd}{s:ar}{x:bI}{u:ak}{M:ir}{Q:ak->ar->Prop}(hk:F.env.scope.kind= .function)(a:At F.env s.heap x u)(h:Q u s)(hn:(x==bT "__classdict__")=false):
  aH M F.A (loadName F.env x) Q dw s:=by
 rcases a with⟨k,m,hm,e⟩|⟨k|k,c,hc,hv⟩
 ·exact wpAny_loadName_local hk k hm e h
 ·exact wpAny_loadName_cell hk k hc hv h
 ·exact wpAny_loadName_free hk k hc hv h hn
theorem CP{F:Fd}{G:BM}{ρ:ae au}{σ:St}{s:ar}{M:ir}{i:Nat}{x:bI}{Kv:AV->St->Prop}(O:gM P ct F)(R:RF F ct.aS G ρ σ s)(c:Ar ct i x=true)(h:ldK (fC σ.loc i) σ Kv):
  aH M F.A (loadName F.env x) (PE F ct.aS G ρ Kv) dw s:=by
 have c:=y7 c
 have h:=UY h
 exact(R.loc i x _ c.1 (qy _ _ _ rfl h.1) h.1).elim λ u q=>Qa O.kind q.2 (PE.here R q.1 h.2) c.2.2
def Rq(l:ae TV):Nat->aq TV:=Xb af none l
theorem t3:∀{ts:ae TV} {us:ae AV} {i:Nat} {t:TV},dH ts us->Rq ts i=af t->∃u,us[i]?=af u/\fC us i=u/\GV t u
 |[],_,_,_=>λ aa=>cu
 |_::_,_,0,t=>λ g h=>g.uc (Q:=λ us=>∃u,us[0]?=af u/\fC us 0=u/\GV t u) λ u aa g aa=>⟨u,rfl,rfl,am h▸g⟩
 |_::_,_,i+1,t=>λ g h=>g.uc (Q:=λ us=>∃u,us[i+1]?=af u/\fC us (i+1)=u/\GV t u) λ aa aa aa g=>t3 (i:=i) g h
noncomputable def UI:TV->aC
 | .ex .undef=>true
 |_=>false
theorem PX{t:TV}{v:AV}(h:UI t=false)(g:GV t v):v≠ .undef:=by
 rintro rfl
 rcases t with w|_|_|_|_|_|_|_|_|_|_
 ·exact ay ((ah (λ w=>UI (.ex w)) (show AV.undef=w from g)).trans h)
 ·exact aD g λ aa e=>AV.noConfusion e.1
 ·exact aD g λ aa e=>AV.noConfusion e
 ·exact aD g λ aa e=>AV.noConfusion e
 ·exact aD g λ aa e=>AV.noConfusion e.1
 ·exact aD g λ aa g=>g.elim λ aa e=>AV.noConfusion e.1
 ·exact aD g λ aa e=>AV.noConfusion e.1
 ·exact AV.noConfusion (show AV.undef= .lst [] from g)
 ·exact aD g λ aa g=>g.elim λ aa e=>AV.noConfusion e.1
 ·exact AV.noConfusion (eG g)
 ·exact aD g λ aa e=>AV.noConfusion e.1
def aLd(s:AS)(i:Nat):aq (ae (TV×AS)):=ob (Rq s.loc i) λ t=>nB (!UI t) (af [(t,s)])
theorem Al{v:AV}{σ:St}{K:AV->St->Prop}(h:v≠ .undef)(k:K v σ):ldK v σ K:=by
 rcases v with _|_|_|_|_|_|_|_|_|_|_|_|_|_|_|_|_|_
 ·exact bt rfl h
 all_goals exact k
theorem Ka{s:AS}{i:Nat}{outs:ae (TV×AS)}{σ:St}(h:aLd s i=af outs)(gs:GS s σ):D2 (ldK (fC σ.loc i) σ) GV outs:=
 ob.u h λ t e h=>nB.u h λ q h=>(t3 gs.loc e).elim λ u g=>D2.one h g.2.2 gs λ K k=>g.2.1.symm▸Al (PX (nb q) g.2.2) k
noncomputable def He(ct:Ct)(i:Nat):bI:=ct.aS.getD i (bT "")
def eZ(i:Nat)(p:c9):SE P ct where
 bA:= .Name (He ct i) p
 run:=λ σ K=>ldK (fC σ.loc i) σ K
 ch:=Ar ct i (He ct i)
 star:=λ aa aa=>rfl
 ok:=λ c F G ρ σ s Kv O R h=>X.any<|wpAny_Name (CP O R c h) ((y7 c).2.1)
 ab:=λ s=>aLd s i
 cO:=λ aa s outs h σ gs=>Ka h gs
theorem RF.top{F:Fd}{G:BM}{ρ:ae au}{σ:St}{s:ar}(R:RF F ct.aS G ρ σ s)(O:gM P ct F):∃B p loose mg mb,P.K.In B/\nZ p loose mg mb B/\∀a o,B.get? a=af o->s.heap.get? a=af o:=
 (P.base _ O.i8).imp λ aa=> .imp λ aa=> .imp λ aa=> .imp λ aa=> .imp λ aa=> .imp_right<| .imp_right λ h a o e=>R.rm.kg a o (R.Cp a o (h a o e))
theorem RF.AT{F:Fd}{G:BM}{ρ:ae au}{σ:St}{s:ar}{Q:Prop}(R:RF F ct.aS G ρ σ s)(O:gM P ct F)(k:∀B p loose mg mb,P.K.In B->nZ p loose mg mb B->(∀a o,B.get? a=af o->s.heap.get? a=af o)->Q):Q:=
 (R.top O).elim λ B h=>h.elim λ p h=>h.elim λ l h=>h.elim λ mg h=>h.elim λ mb h=>k B p l mg mb h.1 h.2.1 h.2.2
theorem RF.K{F:Fd}{G:BM}{ρ:ae au}{σ:St}{s:ar}(R:RF F ct.aS G ρ σ s)(O:gM P ct F):P.K.In s.heap:=R.AT O λ aa aa aa aa aa h aa k=>h.keeps k
theorem RF.i8{F:Fd}{G:BM}{ρ:ae au}{σ:St}{s:ar}(R:RF F ct.aS G ρ σ s)(O:gM P ct F):P.Φ G:=P.mono _ _ R.Cp O.i8
noncomputable def Cn(ct:Ct)(x:bI):aC:=(ct.names.lookup x==af .globalImplicit)&&!(x==bT "__debug__")
theorem Co{ct:Ct}{x:bI}(c:Cn ct x=true):ct.names.lookup x=af .globalImplicit/\(x==bT "__debug__")=false:=⟨a4.mp (aF c).1,nb (aF c).2⟩
theorem Qb{F:Fd}{G:BM}{ρ:ae au}{σ:St}{s:ar}{x:bI}{v:AV}{p:c9}{K:AV->St->Prop}(c:Cn ct x=true)(O:gM P ct F)(R:RF F ct.aS G ρ σ s)(e:P.gl.lookup x=af v)(h:K v σ):cL P.j (aE P.prog P.w) F.A (eval (.Name x p) F.env) (PE F ct.aS G ρ K) s:=
 have c:=Co c
 (P.glob G x v ρ (R.i8 O) e).elim λ u q=>R.AT O λ aa aa aa aa aa h1 h2 h3=>
  X.any<|Name_function_global O.kind (by unfold Env.kindOf; rw[O.names]; exact c.1) (loadGlobal_global (by rw[O.glob]; exact h2.g.keeps h3) (mg_of h1 h2.g q.1) (PE.here R q.2 h)) c.2
def xGv(x:bI)(v:AV)(p:c9):SE P ct where
 bA:= .Name x p
 run:=λ σ K=>P.gl.lookup x=af v/\K v σ
 ch:=Cn ct x
 star:=λ aa aa=>rfl
 ok:=λ c F G ρ σ s Kv O R h=>Qb c O R h.1 h.2
end
def binI(op:cH)(a b:Int)(k:Int->Prop):Prop:=match op with
 | .Add=>k (a+b)
 | .Sub=>k (a - b)
 | .Mult=>jF a b/\k (a * b)
 | .FloorDiv=>(b≠0/\b.natAbs < 1073741824)/\k (a.fdiv b)
 | .Mod=>b≠0/\k (a.fmod b)
 | .LShift=>(0<=b/\(Builtin.Int.intBits a:Int)+b<=2 ^ 27)/\k (a * 2 ^ b.toNat)
 | .RShift=>0<=b/\k (a.fdiv (2 ^ b.toNat))
 | .Pow=>(0<=b/\(Builtin.Int.intBits a:Int) * b<=2 ^ 27)/\k (a ^ b.toNat)
 |_=>False
noncomputable def isNone:AV->aq aC
 | .none=>af true
 | .undef=>none
 | .val _=>none
 | .any=>none
 |_=>af false
def EC(op:j7)(i j:Int)(K:aC->Prop):Prop:=match op with
 | .Eq=>K (i==j)
 | .NotEq=>K (i !=j)
 | .Lt=>K (decide (i < j))
 | .LtE=>K (decide (i<=j))
 | .Gt=>K (decide (i > j))
 | .GtE=>K (decide (i>=j))
 |_=>False
def j9(a:AV)(K:Int->Prop):Prop:=match a with
 | .int i=>K i
 |_=>False
theorem j9.e{a:AV}{f:Int->Prop}{Q:AV->Prop}(h:j9 a f)(k:∀i,f i->Q (.int i)):Q a:=by
 rcases a with _|_|_|i|_|_|_|_|_|_|_|_|_|_|_|_|_|_
 all_goals first|exact h.elim|exact k i h
theorem j9.u{G:BM}{ρ:ae au}{a:AV}{v:ak}{f:Int->Prop}{Q:ak->Prop}(h:j9 a f)(va:VR G ρ a v)(k:∀i t,f i->Q (.int i t)):Q v:=
 h.e (Q:=λ a=>VR G ρ a v->Q v) (λ i h va=>va.iu λ t=>k i t h) va
def zP(op:cH)(a b:AV)(σ:St)(K:AV->St->Prop):Prop:=j9 a λ i=>j9 b λ j=>binI op i j λ r=>K (.int r) σ
def Qq(o:aq aC)(K:aC->Prop):Prop:=match o with
 |some c=>K c
 |none=>False
theorem Qq.u{o:aq aC}{K:aC->Prop}{Q:Prop}(h:Qq o K)(k:∀c,o=af c->K c->Q):Q:=by
 rcases o with _|c
 ·exact h.elim
 ·exact k c rfl h
def KI(op:j7)(o:aq aC)(K:aC->Prop):Prop:=match op with
 | .Is=>Qq o K
 | .IsNot=>Qq o λ c=>K (!c)
 |_=>False
def x_(op:j7)(a b:AV)(K:aC->Prop):Prop:=match b with
 | .int j=>j9 a λ i=>EC op i j K
 | .none=>KI op (isNone a) K
 |_=>False
theorem x_.u{op:j7}{a b:AV}{K:aC->Prop}{Q:AV->Prop}(h:x_ op a b K)(k1:KI op (isNone a) K->Q .none)(k2:∀j,(j9 a λ i=>EC op i j K)->Q (.int j)):Q b:=by
 rcases b with _|_|_|j|_|_|_|_|_|_|_|_|_|_|_|_|_|_
 all_goals first|exact h.elim|exact k1 h|exact k2 j h
def truth(a:AV)(K:aC->Prop):Prop:=match a with
 | .bool b=>K b
 | .int i=>K (i !=0)
 |_=>False
def vZ(op:cH)(p q:Int×Int):aq (Int×Int):=match op with
 | .Add=>af (p.1+q.1,p.2+q.2)
 | .Sub=>af (p.1 - q.2,p.2 - q.1)
 | .Mult=>aX (decide (0<=p.1/\p.1=p.2/\p.1 < 1048576)) (af (p.1 * q.1,p.1 * q.2)) (nB (decide (0<=q.1/\q.1=q.2/\q.1 < 1048576)) (af (p.1 * q.1,p.2 * q.1)))
 | .FloorDiv=>nB (decide (0 < q.1/\q.1=q.2/\q.1 < 1073741824)) (af (p.1.fdiv q.1,p.2.fdiv q.1))
 | .Mod=>nB (decide (0 < q.1/\q.1=q.2)) (aX (decide (p.1=p.2)) (af (p.1.fmod q.1,p.1.fmod q.1)) (af (0,q.1 - 1)))
 | .RShift=>nB (decide (0<=q.1/\q.1=q.2)) (af (p.1.fdiv (2 ^ q.1.toNat),p.2.fdiv (2 ^ q.1.toNat)))
 | .Pow=>nB (decide (p.1=2/\p.2=2/\0<=q.1/\q.2 < 1000)) (af (2 ^ q.1.toNat,2 ^ q.2.toNat))
 |_=>none
theorem qx{a b c:Int}(h:a<=b)(hc:0 < c):a.fdiv c<=b.fdiv c:=by
 rw[i9 _ (eW hc),i9 _ (eW hc)]; exact Int.ediv_le_ediv hc h
theorem Mm{a b:Int}(h0:0<=a)(h1:a < 1048576):jF a b:=FZ (pO (aO (by decide) h0) (dr h1 (by decide)))
theorem y6{a b:Int}(h0:0<=b)(h1:b < 1048576):jF a b:=j8 (pO (aO (by decide) h0) (dr h1 (by decide)))
theorem pin{p:Int×Int}{i:Int}(d:p.1=p.2)(h0:p.1<=i)(h1:i<=p.2):i=p.1:=e7 (aO h1 (dX d.symm)) h0
def By(op:cH)(r:Int×Int)(i j:Int):Prop:=∃x,r.1<=x/\x<=r.2/\∀k:Int->Prop,k x->binI op i j k
theorem By.of{op:cH}{r r':Int×Int}{i j:Int}(e:af r'=af r)(x:Int)(h0:r'.1<=x)(h1:x<=r'.2)(k:∀k:Int->Prop,k x->binI op i j k):By op r i j:=am e▸⟨x,h0,h1,k⟩
theorem R_{α:Type}{p:Prop}[d:fD p]{x y:aq α}{r:α}{Q:Prop}(h:aX (decide p) x y=af r)(k1:p->x=af r->Q)(k2:y=af r->Q):Q:=by
 cases d with
 |isTrue e=>exact k1 e h
 |isFalse e=>exact k2 h
theorem nD{α:Type}{p:Prop}[d:fD p]{x:aq α}{r:α}{Q:Prop}(h:nB (decide p) x=af r)(k:p->x=af r->Q):Q:=nB.u h λ e=>k (bg e)
theorem Ji{b:Int}(h:0 < b)(k:b < 1073741824):b≠0/\b.natAbs < 1073741824:=⟨jl h,mV.mp ((me (eW h)).symm▸k)⟩
theorem fmod_lo{i q:Int}(h:0 < q):0<=i.fmod q/\i.fmod q<=q - 1:=by
 rw[i_ _ (eW h)]; exact⟨mw _ (jl h),ja (ke i h)⟩
theorem ze{a b:Int}(h:a<=b):(2:Int) ^ a.toNat<=2 ^ b.toNat:=by
 have:=rD (n:=2) (by decide) (Int.toNat_le_toNat h)
 exact_mod_cast this
section
variable{p q r:Int×Int}{i j:Int}(i0:p.1<=i)(i1:i<=p.2)(j0:q.1<=j)(j1:j<=q.2)
include i0 i1 j0 j1
theorem Ov(h:vZ .Mult p q=af r):By .Mult r i j:=
 R_ h (λ d h=> .of h (i * j) (pin d.2.1 i0 i1▸fE j0 (pin d.2.1 i0 i1▸d.1)) (pin d.2.1 i0 i1▸fE j1 (pin d.2.1 i0 i1▸d.1)) λ aa z=>⟨Mm (aO d.1 i0) ((pin d.2.1 i0 i1).symm▸d.2.2),z⟩)
  λ h=>nD h λ d h=> .of h (i * j) (pin d.2.1 j0 j1▸dY i0 (pin d.2.1 j0 j1▸d.1)) (pin d.2.1 j0 j1▸dY i1 (pin d.2.1 j0 j1▸d.1)) λ aa z=>⟨y6 (aO d.1 j0) ((pin d.2.1 j0 j1).symm▸d.2.2),z⟩
theorem To(h:vZ .FloorDiv p q=af r):By .FloorDiv r i j:=
 nD h λ d h=>have e:=pin d.2.1 j0 j1; .of h (i.fdiv q.1) (qx i0 d.1) (qx i1 d.1) λ aa z=>e.symm▸⟨Ji d.1 d.2.2,z⟩
theorem Ou(h:vZ .Mod p q=af r):By .Mod r i j:=
 nD h λ d h=>have e:=pin d.2 j0 j1; R_ h (λ c h=> .of h (i.fmod q.1) (pin c i0 i1▸dT _) (pin c i0 i1▸dT _) λ aa z=>e.symm▸⟨jl d.1,z⟩)
  λ h=> .of h (i.fmod q.1) (fmod_lo d.1).1 (fmod_lo d.1).2 λ aa z=>e.symm▸⟨jl d.1,z⟩
theorem Oy(h:vZ .RShift p q=af r):By .RShift r i j:=
 nD h λ d h=>have e:=pin d.2 j0 j1; have pp:(0:Int) < 2 ^ q.1.toNat:=xA (by decide); .of h (i.fdiv (2 ^ q.1.toNat)) (qx i0 pp) (qx i1 pp) λ aa z=>e.symm▸⟨d.1,z⟩
theorem Ow(h:vZ .Pow p q=af r):By .Pow r i j:=
 nD h λ d h=>have e:i=2:=(pin (d.1.trans d.2.1.symm) i0 i1).trans d.1; .of h (2 ^ j.toNat) (ze j0) (ze j1) λ aa z=>
  have j2:=aO d.2.2.1 j0
  e.symm▸⟨⟨j2,aO (Int.mul_le_mul (pL.mpr (pO (k:=2) (by decide) (by decide))) (aO j1 (eW d.2.2.2)) j2 (by decide)) (by decide)⟩,z⟩
theorem J5{op:cH}(h:vZ op p q=af r):By op r i j:=by
 rcases op
 all_goals first|exact cu h|exact Ov i0 i1 j0 j1 h|exact To i0 i1 j0 j1 h|exact Ou i0 i1 j0 j1 h|exact Oy i0 i1 j0 j1 h|exact Ow i0 i1 j0 j1 h|exact .of h (i+j) (rz i0 j0) (rz i1 j1) λ aa z=>z|exact .of h (i - j) (Int.sub_le_sub i0 j1) (Int.sub_le_sub i1 j0) λ aa z=>z
end
def RO(op:cH)(t u:TV)(s:AS):aq (ae (TV×AS)):=ob (mh t) λ p=>ob (mh u) λ q=>ob (vZ op p q) λ r=>af [(Sy r,s)]
abbrev IJ(op:cH)(s:St)(outs:ae (TV×AS))(a b:AV):Prop:=∃i j,a= .int i/\b= .int j/\D2 (λ K=>binI op i j λ r=>K (.int r) s) GV outs
theorem BG{op:cH}{t u:TV}{s:AS}{outs:ae (TV×AS)}{a b:AV}{σ:St}(h:RO op t u s=af outs)(ga:GV t a)(gb:GV u b)(gs:GS s σ):IJ op σ outs a b:=
 ob.u h λ p e1 h=>ob.u h λ q e2 h=>ob.u h λ r e3 h=>mh.u (Q:=λ a=>IJ op σ outs a b) e1 ga λ i i0 i1=>mh.u (Q:=λ b=>IJ op σ outs (.int i) b) e2 gb λ j j0 j1=>
  (J5 i0 i1 j0 j1 e3).elim λ x k=>⟨i,j,rfl,rfl,D2.one h (tR k.1 k.2.1) gs λ K=>k.2.2 λ r=>K (.int r) σ⟩
noncomputable def isAdd(op:cH):aq {u:e9 // op= .Add}:=match op with
 | .Add=>af ⟨(),rfl⟩
 |_=>none
noncomputable def RK(op:cH)(t u:TV)(s:AS):aq (ae (TV×AS)):=ob (isAdd op) λ aa=>ob (tI t) λ aa=>ob (tI u) λ aa=>af [(.ai,s)]
theorem BE{op:cH}{t u:TV}{s:AS}{outs:ae (TV×AS)}{a b:AV}{σ:St}(h:RK op t u s=af outs)(ga:GV t a)(gb:GV u b)(gs:GS s σ):D2 (zP op a b σ) GV outs:=
 ob.u h λ e aa h=>ob.u h λ p aa h=>ob.u h λ q aa h=>(p.2 _ ga).elim λ i ea=>(q.2 _ gb).elim λ j eb=>D2.one (a:= .int (i+j)) h ⟨_,rfl⟩ gs λ K z=>e.2.symm▸ea.symm▸eb.symm▸z
theorem sO{α:Type}{x y:aq α}{a:α}(h:oe x y=af a):x=af a\/y=af a:=by
 rcases x with _|b
 ·exact .inr h
 ·exact .inl h
theorem IJ.b{op:cH}{outs:ae (TV×AS)}{a b:AV}{σ:St}(h:IJ op σ outs a b):D2 (zP op a b σ) GV outs:=h.elim λ aa h=>h.elim λ aa h=>h.1▸h.2.1▸h.2.2
noncomputable def Yn(op:cH):aq {u:e9 // op= .Sub}:=match op with
 | .Sub=>af ⟨(),rfl⟩
 |_=>none
noncomputable def tNr(t:TV):aq {c:Int×Int×Int // t= .nr c.1 c.2.1 c.2.2}:=match t with
 | .nr v l x=>af ⟨(v,l,x),rfl⟩
 |_=>none
noncomputable def YW(op:cH)(t u:TV):aq {r:TV // ∀a b,GV t a->GV u b->∃i j,a= .int i/\b= .int j/\op= .Sub/\GV r (.int (i - j))}:=ob (Yn op) λ e=>ob (tNr t) λ v=>ob (lr u) λ c=>af ⟨.nr (v.1.1 - c.1) (v.1.2.1 - c.1) (v.1.2.2 - c.1),λ a b ga gb=>
 have g:a= .int v.1.1/\v.1.2.1<=v.1.1/\v.1.1<=v.1.2.2:=(v.2▸ga:GV (.nr _ _ _) a)
 have k:b= .int c.1:=(c.2▸gb:GV (.ex _) b)
 ⟨v.1.1,c.1,g.1,k,e.2,rfl,H5 g.2.1 _,H5 g.2.2 _⟩⟩
noncomputable def RL(op:cH)(t u:TV)(s:AS):aq (ae (TV×AS)):=ob (YW op t u) λ r=>af [(r.1,s)]
theorem BF{op:cH}{t u:TV}{s:AS}{outs:ae (TV×AS)}{a b:AV}{σ:St}(h:RL op t u s=af outs)(ga:GV t a)(gb:GV u b)(gs:GS s σ):IJ op σ outs a b:=
 ob.u h λ r aa h=>(r.2 a b ga gb).elim λ i k=>k.elim λ j k=>⟨i,j,k.1,k.2.1,D2.one h k.2.2.2 gs λ K z=>k.2.2.1.symm▸z⟩
def J6(op:cH)(t u:TV)(s:AS):aq (ae (TV×AS)):=oe (RL op t u s) (oe (RO op t u s) (RK op t u s))
theorem OU{op:cH}{t u:TV}{s:AS}{outs:ae (TV×AS)}{a b:AV}{σ:St}(h:J6 op t u s=af outs)(ga:GV t a)(gb:GV u b)(gs:GS s σ):D2 (zP op a b σ) GV outs:=
 (sO h).elim (λ h=>(BF h ga gb gs).b) λ h=>(sO h).elim (λ h=>(BG h ga gb gs).b) λ h=>BE h ga gb gs
noncomputable def DG(t f:aC):ae aC:=aX t [true] (aX f [false] [true,false])
theorem HS{t f b:aC}(ht:t=true->b=true)(hf:f=true->b=false):b∈DG t f:=by
 rcases t
 ·rcases f
  ·rcases b
   ·exact .tail _ (.head _)
   ·exact .head _
  ·exact show b∈[false] from(hf rfl).symm▸ .head _
 ·exact show b∈[true] from(ht rfl).symm▸ .head _
theorem NE{a b c:Prop}[fD a][fD b][fD c](ht:a->c)(hf:b->¬c):decide c∈DG (decide a) (decide b):=HS (λ e=>cz (ht (bg e))) λ e=>dj (hf (bg e))
def J8(op:j7)(p q:Int×Int):aq (ae aC):=match op with
 | .Eq=>af (DG (decide (p.1=p.2/\q.1=q.2/\p.1=q.1)) (decide (p.2 < q.1\/q.2 < p.1)))
 | .NotEq=>af (DG (decide (p.2 < q.1\/q.2 < p.1)) (decide (p.1=p.2/\q.1=q.2/\p.1=q.1)))
 | .Lt=>af (DG (decide (p.2 < q.1)) (decide (q.2<=p.1)))
 | .LtE=>af (DG (decide (p.2<=q.1)) (decide (q.2 < p.1)))
 | .Gt=>af (DG (decide (q.2 < p.1)) (decide (p.2<=q.1)))
 | .GtE=>af (DG (decide (q.2<=p.1)) (decide (p.2 < q.1)))
 |_=>none
def CmI(op:j7)(i j:Int)(l:ae aC):Prop:=∃b,b∈l/\∀K:aC->Prop,K b->EC op i j K
theorem CmI.of{op:j7}{i j:Int}{l m:ae aC}{b:aC}(e:af m=af l)(h:b∈m)(k:∀K:aC->Prop,K b->EC op i j K):CmI op i j l:=⟨b,am e▸h,k⟩
theorem BH{op:j7}{p q:Int×Int}{l:ae aC}{i j:Int}(h:J8 op p q=af l)(i0:p.1<=i)(i1:i<=p.2)(j0:q.1<=j)(j1:j<=q.2):CmI op i j l:=
 have lt1:p.2 < q.1->i < j:=λ e=>gB i1 (kh e j0)
 have lt2:q.2 < p.1->j < i:=λ e=>gB j1 (kh e i0)
 have le1:p.2<=q.1->i<=j:=λ e=>aO i1 (aO e j0)
 have YE:q.2<=p.1->j<=i:=λ e=>aO j1 (aO e i0)
 have eq1:(p.1=p.2/\q.1=q.2/\p.1=q.1)->i=j:=λ e=>(pin e.1 i0 i1).trans (e.2.2.trans (pin e.2.1 j0 j1).symm)
 have ne1:(p.2 < q.1\/q.2 < p.1)->i≠j:=λ e=>e.elim (λ e=>Int.ne_of_lt (lt1 e)) λ e=>jl (lt2 e)
 match op,h with
 | .Eq,h=> .of h (NE eq1 ne1) λ aa z=>z
 | .NotEq,h=> .of h (HS (λ e=>rO.mpr (ne1 (bg e))) λ e=>bne_eq_false_iff_eq.mpr (eq1 (bg e))) λ aa z=>z
 | .Lt,h=> .of h (NE lt1 λ e=>gX.mpr (YE e)) λ aa z=>z
 | .LtE,h=> .of h (NE le1 λ e=>Int.not_le.mpr (lt2 e)) λ aa z=>z
 | .Gt,h=> .of h (NE lt2 λ e=>gX.mpr (le1 e)) λ aa z=>z
 | .GtE,h=> .of h (NE YE λ e=>Int.not_le.mpr (lt1 e)) λ aa z=>z
 | .Is,h=>cu h
 | .IsNot,h=>cu h
 | .In,h=>cu h
 | .NotIn,h=>cu h
def AP:TV->aq aC
 | .ex v=>isNone v
 |_=>af false
theorem FD{t:TV}{v:AV}{c:aC}(e:AP t=af c)(g:GV t v):isNone v=af c:=by
 have o:∀{x},v=x->isNone x=af c->isNone v=af c:=λ h k=>h▸k
 rcases t with w|_|_|_|_|_|_|_|_|_|_
 ·exact o g e
 ·exact aD g λ aa g=>o g.1 e
 ·exact aD g λ aa g=>o g e
 ·exact aD g λ aa g=>o g e
 ·exact aD g λ aa g=>o g.1 e
 ·exact aD g λ aa g=>g.elim λ aa g=>o g.1 e
 ·exact aD g λ aa g=>o g.1 e
 ·exact o g e
 ·exact aD g λ aa g=>g.elim λ aa g=>o g.1 e
 ·exact o (eG g) e
 ·exact aD g λ aa g=>o g.1 e
def isT(op:j7)(t:TV):aq (ae aC):=match op with
 | .Is=>ob (AP t) λ c=>af [c]
 | .IsNot=>ob (AP t) λ c=>af [!c]
 |_=>none
def J9(op:j7)(t u:TV):aq (ae aC):=oe (ob (S4 u) λ aa=>isT op t) (ob (mh t) λ p=>ob (mh u) λ q=>J8 op p q)
abbrev Ob(op:j7)(l:ae aC)(a b:AV):Prop:=∃c,c∈l/\∀K:aC->Prop,K c->x_ op a b K
theorem UH{op:j7}{t:TV}{l:ae aC}{a:AV}(h:isT op t=af l)(ga:GV t a):Ob op l a .none:=by
 have o:∀{c},isNone a=af c->∀{K:aC->Prop},K c->Qq (isNone a) K:=λ e aa z=>e▸z
 rcases op
 all_goals first|exact cu h|exact ob.u h λ c e h=>⟨_,am h▸ .head _,λ K z=>o (FD e ga) z⟩
theorem BI{op:j7}{t u:TV}{l:ae aC}{a b:AV}(h:J9 op t u=af l)(ga:GV t a)(gb:GV u b):Ob op l a b:=
 (sO h).elim (λ h=>ob.u h λ e aa h=>(show b= .none from(e.2▸gb:GV (.ex .none) b))▸UH h ga) λ h=>ob.u h λ p e1 h=>ob.u h λ q e2 h=>
  mh.u (Q:=λ a=>Ob op l a b) e1 ga λ i i0 i1=>mh.u (Q:=λ b=>Ob op l (.int i) b) e2 gb λ j j0 j1=>BH h i0 i1 j0 j1
noncomputable def ZV(t:TV):aq (ae aC):=match t with
 | .ex (.bool b)=>af [b]
 | .tb=>af [true,false]
 |_=>none
def Kg(t:TV):aq (ae aC):=oe (ZV t) (ob (mh t) λ p=>J8 .NotEq p (0,0))
abbrev Tn(l:ae aC)(a:AV):Prop:=∃c,c∈l/\∀K:aC->Prop,K c->truth a K
theorem Ri{t:TV}{l:ae aC}{a:AV}(h:ZV t=af l)(ga:GV t a):Tn l a:=by
 rcases t with w|_|_|_|_|_|_|_|_|_|_
 ·refine(show a=w from ga)▸?_
  clear ga
  rcases w with _|_|b|_|_|_|_|_|_|_|_|_|_|_|_|_|_|_
  all_goals first|exact cu h|exact⟨b,am h▸ .head _,λ K z=>z⟩
 all_goals first|exact cu h|exact aD ga λ b e=>⟨b,am h▸(by rcases b; exact .tail _ (.head _); exact .head _),λ K z=>e▸z⟩
theorem Ik{t:TV}{l:ae aC}{a:AV}(h:Kg t=af l)(ga:GV t a):Tn l a:=
 (sO h).elim (Ri · ga) λ h=>ob.u h λ p e h=>mh.u (Q:=λ a=>Tn l a) e ga λ i i0 i1=>BH (j:=0) h i0 i1 (dT _) (dT _)
noncomputable def bsO(l:ae aC)(s:AS):ae (aC×AS):=l.map λ b=>(b,s)
theorem D2.bools{l:ae aC}{c:aC}{s:AS}{σ:St}(m:c∈l)(gs:GS s σ):D2 (λ K=>K c σ) Eq (bsO l s):=⟨c,σ,⟨(c,s),dN.mpr ⟨c,m,rfl⟩,rfl,gs⟩,λ aa k=>k⟩
noncomputable def tbs(l:ae aC)(s:AS):ae (TV×AS):=l.map λ b=>(.ex (.bool b),s)
theorem D2.V0{l:ae aC}{c:aC}{s:AS}{σ:St}(m:c∈l)(gs:GS s σ):D2 (λ K=>K (AV.bool c) σ) GV (tbs l s):=⟨_,σ,⟨(.ex (.bool c),s),dN.mpr ⟨c,m,rfl⟩,rfl,gs⟩,λ aa k=>k⟩
section
variable{prog:aK}{w:bw}{A:bn}{F:Fd}{aS:ae bI}{G:BM}{ρ:ae au}{σ:St}{s:ar}{Kv:AV->St->Prop}
theorem PE.toks{av:AV}{v:ak}{t:Nat}(R:RF F aS G ρ σ s)(h:VR G ρ av v)(k:Kv av σ):PE F aS G ρ Kv v {s with toks:=t}:=PE.here (R.toks t) h k
theorem En{op:cH}{i j:Int}{t u:kq}(R:RF F aS G ρ σ s)(h:binI op i j λ r=>Kv (.int r) σ):
  aH (aE prog w) A (kS op (.int i t) (.int j u)) (PE F aS G ρ Kv) dw s:=by
 have o:∀{r t n},Kv (.int r) σ->PE F aS G ρ Kv (.int r t) {s with toks:=n}:=λ h=>PE.toks R VR.mF h
 rcases op
 case Add=>exact wpAny_add_int (o h)
 case Sub=>exact sub_int' (o h)
 case Mult=>exact mul_int (o h.2) h.1
 case FloorDiv=>exact floordiv_int h.1.1 (o h.2) (Or.inl (oF h.1.2))
 case Mod=>exact mod_int' h.1 (o h.2)
 case LShift=>exact lshift_int h.1.1 h.1.2 (o h.2)
 case RShift=>exact rshift_int h.1 (o h.2)
 case Pow=>exact pow_int h.1.1 h.1.2 (o h.2)
 all_goals exact h.elim
theorem EX{op:cH}{i j:Int}{t u:kq}(R:RF F aS G ρ σ s)(h:binI op i j λ r=>Kv (.int r) σ):
  aH (aE prog w) A (mA op (.int i t) (.int j u)) (PE F aS G ρ Kv) dw s:=by
 have o:∀{r t n},Kv (.int r) σ->PE F aS G ρ Kv (.int r t) {s with toks:=n}:=λ h=>PE.toks R VR.mF h
 rcases op
 case Add=>exact wpAny_iadd_int (o h)
 case Sub=>exact isub_int (o h)
 case Mult=>exact imul_int (o h.2) h.1
 case FloorDiv=>exact ifloordiv_int h.1.1 (o h.2) (Or.inl (oF h.1.2))
 case Mod=>exact imod_int h.1 (o h.2)
 case LShift=>exact ilshift_int h.1.1 h.1.2 (o h.2)
 case RShift=>exact irshift_int h.1 (o h.2)
 case Pow=>exact ipow_int h.1.1 h.1.2 (o h.2)
 all_goals exact h.elim
theorem r3{op:cH}{a b:AV}{u v:ak}(R:RF F aS G ρ σ s)(va:VR G ρ a u)(vb:VR G ρ b v)(h:zP op a b σ Kv):
  aH (aE prog w) A (mA op u v) (PE F aS G ρ Kv) dw s:=
 h.u (Q:=λ u=>aH (aE prog w) A (mA op u v) (PE F aS G ρ Kv) dw s) va λ i t h=>h.u (Q:=λ v=>aH (aE prog w) A (mA op (.int i t) v) (PE F aS G ρ Kv) dw s) vb λ aa aa=>EX R
theorem ED{op:j7}{i j:Int}{t u:kq}{Q:ak->ar->Prop}(h:EC op i j λ c=>Q (.bool c) s):
  aH (aE prog w) A (dz op (.int i t) (.int j u)) Q dw s:=by
 rcases op
 case Eq=>exact PyProof.Rows.eq_int h
 case NotEq=>exact PyProof.Rows.ne_int h
 case Lt=>exact PyProof.Rows.lt_int h
 case LtE=>exact PyProof.Rows.le_int h
 case Gt=>exact PyProof.Rows.gt_int h
 case GtE=>exact PyProof.Rows.ge_int h
 all_goals exact h.elim
theorem y2{a:AV}{v:ak}{c:aC}(h:VR G ρ a v)(e:isNone a=af c):(v== .none)=c:=by
 have r:∀{x},v=x->(x== .none)=false->isNone a=af false->(v== .none)=c:=λ h k z=>h▸k.trans (am (z.symm.trans e))
 rcases a with _|_|_|_|_|_|_|_|_|_|_|_|_|_|_|_|_|_
 case none=>exact(ah (·==c_) (show v= .none from h)).trans (am e)
 case bool=>exact r h rfl rfl
 case int=>exact aD h λ aa h=>r h rfl rfl
 case ky=>exact aD h λ aa h=>r h rfl rfl
 all_goals first|exact cu e|exact(VR.isRef h rfl).elim λ aa h=>r h rfl rfl
theorem EF{op:j7}{a:AV}{u:ak}{Q:ak->ar->Prop}(va:VR G ρ a u)(h:KI op (isNone a) λ c=>Q (.bool c) s):aH (aE prog w) A (dz op u .none) Q dw s:=by
 rcases op
 case Is=>exact Qq.u h λ c e h=>is_none (y2 va e▸h)
 case IsNot=>exact Qq.u h λ c e h=>isNot_none (y2 va e▸h)
 all_goals exact h.elim
theorem wh{op:j7}{a b:AV}{u v:ak}{Q:ak->ar->Prop}(va:VR G ρ a u)(vb:VR G ρ b v)(h:x_ op a b λ c=>Q (.bool c) s):
  aH (aE prog w) A (dz op u v) Q dw s:=
 h.u (Q:=λ b=>VR G ρ b v->aH (aE prog w) A (dz op u v) Q dw s) (λ h e=>(show v= .none from e)▸EF va h)
  (λ j h vb=>h.u (Q:=λ u=>aH (aE prog w) A (dz op u v) Q dw s) va λ i t h=>vb.iu (Q:=λ v=>aH (aE prog w) A (dz op (.int i t) v) Q dw s) λ aa=>ED h) vb
theorem DE{a:AV}{v:ak}{Q:aC->ar->Prop}(va:VR G ρ a v)(h:truth a λ c=>Q c s):aH (aE prog w) A (truthy v) Q dw s:=by
 rcases a with _|_|_|_|_|_|_|_|_|_|_|_|_|_|_|_|_|_
 case bool=>exact va.R1 (Q:=λ v=>aH (aE prog w) A (truthy v) Q dw s) (pK h)
 case int=>exact va.iu (Q:=λ v=>aH (aE prog w) A (truthy v) Q dw s) λ aa=>truthy_int h
 all_goals exact h.elim
end
theorem Iv{op:j7}{i j:Int}{k k':aC->Prop}(h:EC op i j k)(m:∀c,k c->k' c):EC op i j k':=by
 rcases op
 all_goals first|exact m _ h|exact h.elim
theorem Ix{op:j7}{o:aq aC}{k k':aC->Prop}(h:KI op o k)(m:∀c,k c->k' c):KI op o k':=by
 rcases op
 case Is=>exact Qq.u h λ c e h=>e▸m _ h
 case IsNot=>exact Qq.u h λ c e h=>e▸m _ h
 all_goals exact h.elim
theorem yJ{op:j7}{a b:AV}{k k':aC->Prop}(h:x_ op a b k)(m:∀c,k c->k' c):x_ op a b k':=
 h.u (Q:=λ b=>x_ op a b k') (λ h=>Ix h m) λ j h=>h.e (Q:=λ a=>x_ op a (.int j) k') λ i h=>Iv h m
theorem FI{a:AV}{k k':aC->Prop}(h:truth a k)(m:∀c,k c->k' c):truth a k':=by
 rcases a with _|_|_|_|_|_|_|_|_|_|_|_|_|_|_|_|_|_
 all_goals first|exact h.elim|exact m _ h
section
variable{P:cC}{ct:Ct}
abbrev WP(P:cC)(A:bn){α:Type}(t:ie α)(Q:α->ar->Prop)(s:ar):Prop:=cL P.j (aE P.prog P.w) A t Q s
theorem SE.then(l r:SE P ct)(cl:l.ch=true)(cr:r.ch=true){F:Fd}{G:BM}{ρ:ae au}{σ:St}{s:ar}(O:gM P ct F)(R:RF F ct.aS G ρ σ s)
  {K:AV->AV->St->Prop} (h:l.run σ λ a aI=>r.run aI λ b aV=>K a b aV) {Q:ak->ak->ar->Prop}
  (hq:∀G' ρ' a b u v b7 s',dG G G'->Ext ρ ρ'->RF F ct.aS G' ρ' b7 s'->VR G' ρ' a u->VR G' ρ' b v->K a b b7->Q u v s'):
  WP P F.A (eval l.bA F.env) (λ u s₁=>WP P F.A (eval r.bA F.env) (λ v bp=>Q u v bp) s₁) s:=by
 exact X.mono (l.ok cl F G ρ σ s _ O R h) λ u s₁ z=>z.u λ dW c8 a aI fK fh dS va bH=>X.mono (r.ok cr F dW c8 aI s₁ _ O dS bH) λ v bp z=>z.u λ jp g6 b aV jf ju gN vb cW=>
  hq jp g6 a b u v aV bp (fK.trans jf) (fh.trans ju) gN (va.up jf ju) vb cW
theorem CM{A:bn}{F:Fd}{aS:ae bI}{G G':BM}{ρ ρ':ae au}{K:AV->St->Prop}{t:ie ak}{s:ar}(g:dG G G')(x:Ext ρ ρ')(h:aH (aE P.prog P.w) A t (PE F aS G' ρ' K) dw s):WP P A t (PE F aS G ρ K) s:=
 X.any (c7 h (λ aa aa z=>PE.up g x z) λ aa aa z=>z)
noncomputable def Kh{β:Type}(e:AS->aq (ae (TV×AS)))(f:TV->AS->aq (ae (β×AS))):AS->aq (ae (β×AS)):=λ s=>bO (e s) f
theorem nJ{α β:Type}{g:β->α->Prop}{e:SE P ct}{f:TV->AS->aq (ae (β×AS))}{C:AV->St->(α->St->Prop)->Prop}(fo:l6 P)(k:∀t s outs a σ,f t s=af outs->GV t a->GS s σ->D2 (C a σ) g outs):
  Ab (Kh e.ab f) (λ σ K=>e.run σ λ a aI=>C a aI K) g:=λ s outs h σ gs=>(e.cO fo).bind h gs λ t s' l h' a b7 ga p_=>k t s' l a b7 h' ga p_
noncomputable def RS{β:Type}(l r:AS->aq (ae (TV×AS)))(f:TV->TV->AS->aq (ae (β×AS))):AS->aq (ae (β×AS)):=λ s=>bO (l s) λ a s₁=>bO (r s₁) λ b bp=>f a b bp
theorem rQ{α β:Type}{g:β->α->Prop}{l r:SE P ct}{f:TV->TV->AS->aq (ae (β×AS))}{C:AV->AV->St->(α->St->Prop)->Prop}(fo:l6 P)(k:∀t u s outs a b σ,f t u s=af outs->GV t a->GV u b->GS s σ->D2 (C a b σ) g outs):
  Ab (RS l.ab r.ab f) (λ σ K=>l.run σ λ a aI=>r.run aI λ b aV=>C a b aV K) g:=
 λ s outs h σ gs=>(l.cO fo).bind h gs λ t s' l' h' a b7 ga p_=>(r.cO fo).bind h' p_ λ u bp l₂ cW b aV gb og=>k t u bp l₂ a b aV cW ga gb og
noncomputable def Az:j7->aC
 | .In=>false
 | .NotIn=>false
 |_=>true
theorem yx{op:j7}{e:aB}(h:Az op=true):pN op e=false:=by
 have h1:((op== .In)||(op== .NotIn))=false:=by
  rcases op
  all_goals first|rfl|exact ay h
 rcases e
 case Set=>unfold pN; dsimp only; rw[h1,m7,Bool.false_and]
 all_goals rfl
def adC(l:SE P ct)(op:j7)(r:SE P ct)(p:c9):SE P ct where
 bA:= .Compare l.bA [op] [r.bA] p
 run:=λ σ K=>l.run σ λ a aI=>r.run aI λ b aV=>x_ op a b λ c=>K (.bool c) aV
 ch:=Az op&&(l.ch&&r.ch)
 star:=λ aa aa=>rfl
 ok:=λ c F G ρ σ s Kv O R h=>X.Bz (yx (aF c).1) (SE.then l r (aF (aF c).2).1 (aF (aF c).2).2 O R h λ G' ρ' a b u v b7 s' g x R' va vb k=>
  X.any (wh va vb (yJ k λ c k=>PE.up g x (PE.here R' VR.Kz k))))
 ab:=RS l.ab r.ab λ t u s=>ob (J9 op t u) λ bs=>af (tbs bs s)
 cO:=λ fo=>rQ fo λ t u s outs a b σ h ga gb gs=>ob.u h λ bs e h=>(BI e ga gb).elim λ c k=>am h▸(D2.V0 k.1 gs).eq λ K z=>k.2 _ z
def Rc(l:SE P ct)(op:j7)(r:SE P ct)(p:c9):ST P ct where
 bA:= .Compare l.bA [op] [r.bA] p
 run:=λ σ K=>l.run σ λ a aI=>r.run aI λ b aV=>x_ op a b λ c=>K c aV
 ch:=Az op&&(l.ch&&r.ch)
 ok:=λ c F G ρ σ s Kv O R h=>X.isTrue_Compare1 (yx (aF c).1) (SE.then l r (aF (aF c).2).1 (aF (aF c).2).2 O R h λ G' ρ' a b u v b7 s' g x R' va vb k=>
  X.any (wh va vb (yJ k λ c k=>X.any (pK ⟨G',ρ',b7,g,x,R',k⟩))))
 ab:=RS l.ab r.ab λ t u s=>ob (J9 op t u) λ bs=>af (bsO bs s)
 cO:=λ fo=>rQ fo λ t u s outs a b σ h ga gb gs=>ob.u h λ bs e h=>(BI e ga gb).elim λ c k=>am h▸(D2.bools k.1 gs).eq λ K z=>k.2 _ z
def ZR(e:SE P ct):ST P ct where
 bA:=e.bA
 run:=λ σ K=>e.run σ λ a aI=>truth a λ c=>K c aI
 ch:=vt 4 e.bA&&e.ch
 ok:=λ c F G ρ σ s Kv O R h=>X.Ag (ZW (aF c).1) (X.mono (e.ok (aF c).2 F G ρ σ s _ O R h) λ v s₁ z=>z.u λ G' ρ' a b7 g x R' va k=>X.any (DE va (FI k λ c k=>⟨G',ρ',b7,g,x,R',k⟩)))
 ab:=Kh e.ab λ t s=>ob (Kg t) λ bs=>af (bsO bs s)
 cO:=λ fo=>nJ fo λ t s outs a σ h ga gs=>ob.u h λ bs e h=>(Ik e ga).elim λ c k=>am h▸(D2.bools k.1 gs).eq λ K z=>k.2 _ z
noncomputable def adg(e:ST P ct)(p:c9):ST P ct where
 bA:= .UnaryOp .Not e.bA p
 run:=λ σ K=>e.run σ λ c aI=>K (!c) aI
 ch:=e.ch
 ok:=λ c F G ρ σ s Kv O R h=>X.EY (X.mono (e.ok c F G ρ σ s _ O R h) λ b s₁ z=>z.u λ G' ρ' b7 g x R' k=>⟨G',ρ',b7,g,x,R',k⟩)
 ab:=λ s=>bO (e.ab s) λ b s=>af [(!b,s)]
 cO:=λ fo s outs h σ gs=>(e.cO fo).bind h gs λ b s' l h' a b7 ga p_=>D2.one h' (ah not ga) p_ λ aa k=>k
noncomputable def xIf(t:ST P ct)(a b:SE P ct)(p:c9):SE P ct where
 bA:= .IfExp t.bA a.bA b.bA p
 run:=λ σ K=>t.run σ λ c aI=>aX c (a.run aI K) (b.run aI K)
 ch:=t.ch&&(a.ch&&b.ch)
 star:=λ aa aa=>rfl
 ok:=λ c F G ρ σ s Kv O R h=>X.IfExp (X.mono (t.ok (aF c).1 F G ρ σ s _ O R h) λ v s₁ z=>z.u λ G' ρ' b7 g x R' k=>match v,k with
  |false,k=>X.mono (b.ok (aF (aF c).2).2 F G' ρ' b7 s₁ _ O R' k) λ aa aa=>PE.up g x
  |true,k=>X.mono (a.ok (aF (aF c).2).1 F G' ρ' b7 s₁ _ O R' k) λ aa aa=>PE.up g x)
 ab:=λ s=>bO (t.ab s) λ c s=>aX c (a.ab s) (b.ab s)
 cO:=λ fo s outs h σ gs=>(t.cO fo).bind h gs λ c s' l h' c' b7 ga p_=>ga▸match c,h' with
  |false,h'=>b.cO fo s' l h' b7 p_
  |true,h'=>a.cO fo s' l h' b7 p_
def YQ(a:AV)(K:AV->Prop):Prop:=j9 a λ i=>K (.int (-i))
def adE(e:SE P ct)(p:c9):SE P ct where
 bA:= .UnaryOp .USub e.bA p
 run:=λ σ K=>e.run σ λ a aI=>YQ a λ v=>K v aI
 ch:=e.ch
 star:=λ aa aa=>rfl
 ok:=λ c F G ρ σ s Kv O R h=>X.U7 (X.mono (e.ok c F G ρ σ s _ O R h) λ v s₁ z=>z.u λ G' ρ' a b7 g x R' va k=>j9.u (Q:=λ v=>WP P F.A (unaryOp .USub v) (PE F ct.aS G ρ Kv) s₁) k va λ i t k=>X.any (neg_int (PE.up g x (PE.toks R' VR.mF k))))
 ab:=Kh e.ab λ t s=>ob (mh t) λ q=>af [(Sy (-q.2,-q.1),s)]
 cO:=λ fo=>nJ fo λ t s outs a σ h ga gs=>ob.u h λ q e h=>mh.u (Q:=λ a=>D2 (λ K=>YQ a λ v=>K v σ) GV outs) e ga λ i i0 i1=>D2.one h (tR (np i1) (np i0)) gs λ K z=>z
structure SL(P:cC)(ct:Ct) where
 bA:ae aB
 run:St->(ae AV->St->Prop)->Prop
 ch:aC
 plain:∀env p,(backTo p (fB bA env)).any (·.1)=false
 ok:ch=true->∀F G ρ σ s Kv p,gM P ct F->RF F ct.aS G ρ σ s->run σ Kv->WP P F.A (spliced (backTo p (fB bA F.env))) (PL F ct.aS G ρ Kv) s
 ab:AS->aq (ae (ae TV×AS)):=λ aa=>none
 cO:l6 P->Ab ab run dH:=by nofun
noncomputable def qZ:SL P ct where
 bA:=[]
 run:=λ σ K=>K [] σ
 ch:=true
 plain:=λ aa aa=>rfl
 ok:=λ aa F G ρ σ s Kv p O R h=>X.any (Bv ⟨G,ρ,[],σ,dG.refl _,Ext.refl _,R,bJ.nil,h⟩)
 ab:=λ s=>af [([],s)]
 cO:=λ aa s outs h σ gs=>D2.one h rfl gs λ aa k=>k
noncomputable def iS(e:SE P ct)(r:SL P ct):SL P ct where
 bA:=e.bA::r.bA
 run:=λ σ K=>e.run σ λ v aI=>r.run aI λ vs aV=>K (v::vs) aV
 ch:=e.ch&&r.ch
 plain:=λ env p=>by rw[e.star]; show(false||(backTo p (fB r.bA env)).any (·.1))=false; rw[r.plain]; rfl
 ok:=λ c F G ρ σ s Kv p O R h=>X.ll (e.star _ _) (X.mono (e.ok (aF c).1 F G ρ σ s _ O R h) λ v s₁ z=>z.u λ dW c8 a aI fK fh dS va bH=>X.mono (r.ok (aF c).2 F dW c8 aI s₁ _ p O dS bH) λ vs bp z=>z.u λ jp g6 b aV jf ju gN vb cW=>
  ⟨jp,g6,a::b,aV,fK.trans jf,fh.trans ju,gN,bJ.cons (va.up jf ju) vb,cW⟩)
 ab:=λ s=>bO (e.ab s) λ v s₁=>bO (r.ab s₁) λ vs bp=>af [(v::vs,bp)]
 cO:=λ fo s outs h σ gs=>(e.cO fo).bind h gs λ t s' l h' a b7 ga p_=>(r.cO fo).bind h' p_ λ u bp l₂ cW b aV gb og=>D2.one cW (dH.cons ga gb) og λ aa k=>k
noncomputable def tV(l:ae AV):aC:=bB l.length 9
theorem tW{l:ae AV}(h:tV l=true):l.length<=gh:=aG (aQ h) (by decide)
noncomputable def cK(b:aC)(k:Prop):Prop:=aX b k False
theorem cK.u{b:aC}{k Q:Prop}(h:cK b k)(f:b=true->k->Q):Q:=by
 rcases b
 ·exact h.elim
 ·exact f rfl h
theorem cK.i{b:aC}{k:Prop}(e:b=true)(h:k):cK b k:=e▸h
theorem RF.K0{F:Fd}{aS:ae bI}{G:BM}{ρ:ae au}{σ:St}{s:ar}(_:RF F aS G ρ σ s):s.heap.get? s.heap.objs.size=none:=none_of λ aa e=>fw _ (b9 e)
theorem RF.Dz{F:Fd}{aS:ae bI}{G:BM}{ρ:ae au}{σ:St}{s:ar}{a:au}(R:RF F aS G ρ σ s):(ρ++[a])[σ.mem.length]?=af a:=R.rm.len▸xM
noncomputable def SI(vs:ae TV)(s:AS):aq (ae (TV×AS)):=match vs with
 |[a,b]=>af [(.tp a b,s)]
 |_=>none
theorem ME{sh:ae AV->aC}{vs:ae TV}{s:AS}{l:ae (TV×AS)}{us:ae AV}{σ:St}(q:∀a b,sh [a,b]=true)(ga:dH vs us)(gs:GS s σ)(h:SI vs s=af l):D2 (λ K=>cK (sh us) (K (.tup us) σ)) GV l:=by
 rcases vs with _|⟨a,_|⟨b,_|_⟩⟩
 case cons.cons.nil=>exact ga.u2 (Q:=λ us=>D2 (λ K=>cK (sh us) (K (.tup us) σ)) GV l) λ x y g1 g2=>D2.one h ⟨x,y,rfl,g1,g2⟩ gs λ K z=>cK.i (q x y) z
 all_goals exact cu h
theorem Dx{vs:ae TV}{us:ae AV}(g:dH vs us)(h:bB vs.length 9=true):tV us=true:=by unfold tV; rw[g.len]; exact h
def Wl(es:SL P ct)(k:Nat)(p:c9):SE P ct where
 bA:= .Tuple es.bA k p
 run:=λ σ K=>es.run σ λ vs aI=>cK (tV vs) (K (.tup vs) aI)
 ch:=es.ch
 star:=λ aa aa=>rfl
 ok:=λ c F G ρ σ s Kv O R h=>X.Mn (X.mono (es.ok c F G ρ σ s _ _ O R h) λ vs s₁ z=>by
  exact z.u λ G' ρ' as b7 g x R' va k=>k.u λ hs k=>⟨(bJ.length va).symm▸tW hs,
   have q:=R'.freeze (s':={s₁ with heap:=s₁.heap.push {cls:= .type "tuple",data:= .seq vs.toArray}}) R'.K0 (aN _ rfl) (λ b o e=>aA _ e) ⟨rfl,rfl,rfl⟩
   PE.up (g.trans q.2) x (PE.here q.1 (VR.ZY (BM.zv _ _ _) ⟨rfl,_,rfl⟩ (bJ.up q.2 (Ext.refl _) as va)) k)⟩)
 ab:=λ s=>bO (es.ab s) λ vs s=>oe (SI vs s) (ob (toAVs vs) λ us=>nB (bB vs.length 9) (af [(.ex (.tup us.1),s)]))
 cO:=λ fo s outs h σ gs=>(es.cO fo).bind h gs λ vs s' l h us b7 ga p_=>(sO h).elim (ME (λ aa aa=>rfl) ga p_) λ h=>ob.u h λ ry aa h=>nB.u h λ hl h=>
  D2.one h (ah AV.tup (ry.2 _ ga)) p_ λ K z=>cK.i (Dx ga hl) z
def adD(es:SL P ct)(p:c9):SE P ct where
 bA:= .List es.bA p
 run:=λ σ K=>es.run σ λ vs aI=>cK (tV vs) (K (.own aI.mem.length) ⟨aI.loc,aI.mem++[.lst vs]⟩)
 ch:=es.ch
 star:=λ aa aa=>rfl
 ok:=λ c F G ρ σ s Kv O R h=>X.nList (X.mono (es.ok c F G ρ σ s _ _ O R h) λ vs s₁ z=>by
  exact z.u λ G' ρ' as b7 g x R' va k=>k.u λ hs k=>⟨(bJ.length va).symm▸tW hs,
   have Ba:=R'.new (ao:= .lst as) (s':={s₁ with heap:=s₁.heap.push {cls:= .type "list",data:= .seq vs.toArray}}) R'.K0 (aN _ rfl) ⟨vs.toArray,⟨_,rfl⟩,bJ.up (dG.refl _) (Ext.snoc _ _) _ va⟩ (λ b o e=>aA _ e) ⟨rfl,rfl,rfl⟩
   PE.up g (x.trans (Ext.snoc _ _)) (PE.here Ba (VR.I5 R'.Dz) k)⟩)
 ab:=λ s=>bO (es.ab s) λ vs s=>nB (bB vs.length 9) (af [(.ex (.own s.mem.length),⟨s.loc,s.mem++[.lst vs]⟩)])
 cO:=λ fo s outs h σ gs=>(es.cO fo).bind h gs λ vs s' l h' us b7 ga p_=>nB.u h' λ e h'=>
  D2.one (σ:=⟨b7.loc,b7.mem++[.lst us]⟩) h' (ah AV.own p_.mem.len.symm) ⟨p_.loc,p_.mem.app (o:= .lst vs) ⟨us,rfl,ga⟩ rfl⟩ λ K z=>cK.i (Dx ga e) z
end
def setAt(l:ae AV)(i:Nat)(v:AV):ae AV:=Nc v l i
theorem Du{v u:AV}{Q:Prop}:∀{l:ae AV} {i j:Nat},(setAt l i v)[j]?=af u->(j=i->u=v->Q)->(j≠i->l[j]?=af u->Q)->Q
 |[],_,_=>λ h aa aa=>cu h
 |_::_,0,0=>λ h k aa=>k rfl (am h).symm
 |_::_,0,_+1=>λ h aa k=>k (cy _) h
 |_::_,_+1,0=>λ h aa k=>k (cy _).symm h
 |_::l,i+1,j+1=>λ h k k'=>Du (l:=l) (i:=i) (j:=j) h (λ e=>k (ah (·+1) e)) λ n=>k' λ e=>n (eJ e)
section
variable{P:cC}{ct:Ct}{F:Fd}{G:BM}{ρ:ae au}{σ:St}{s s':ar}
noncomputable def o9(ct:Ct)(i:Nat)(x:bI):aC:=(ct.aS[i]?==af x)&&((ct.names.lookup x==af .local)||(!ct.ro&&(ct.names.lookup x==af .cell)))
theorem Oh{h:Heap}{a:au}{m m':bI->aq ak}(x:h.Ns a m)(y:h.Ns a m')(n:bI):m n=m' n:=by
 obtain⟨o,es,ep,ho,hd,_,hf⟩:=x
 obtain⟨o',Be,JK,ET,Ls,_,hf'⟩:=y
 have e:=Data.dict.inj (hd.symm.trans ((ah Obj.data (am (ho.symm.trans ET))).trans Ls))
 exact(hf n).symm.trans (e.1▸hf' n)
theorem RF.Zd{c:au}{h':Heap}{t:Nat}{YG:ae AV}(R:RF F ct.aS G ρ σ s)(hs:kZ c s.heap h')(cr:c∉ρ)(cG:G c=none)(nf:∀a,F.free a->a≠c)(hc:∃o,h'.get? c=af o)
  (ns:∃m,h'.Ns F.env.locals m) (cs:∀y d,F.env.cells.lookup y=af d->∃v,h'.IsCell d v) (loc:∀(i:Nat) x v,ct.aS[i]?=af x->YG[i]?=af v->v≠ .undef->∃u,VR G ρ v u/\At F.env h' x u):RF F ct.aS G ρ ⟨YG,σ.mem⟩ {s with heap:=h',toks:=t}:=
 have kp:∀a o,a≠c->s.heap.get? a=af o->h'.get? a=af o:=λ a o n e=>hs.extBut a o n e
 {rm:=R.rm.HG λ a o q e=>kp a o (λ z=>q.elim (λ q=>cr (z▸q)) λ q=>dh cG (z▸q)) e
  ns:=ns
  loc:=loc
  lG:=R.lG
  Bi:=R.Bi
  cell:=λ y d e=>have h:=R.cell y d e; ⟨h.1,h.2.1,cs y d e,h.2.2.2⟩
  p6:=R.p6
  keep:=λ a o n f e=>kp a o (nf a f) (R.keep a o n f e)
  live:=λ a o e=>(d5 (a=c)).elim (λ z=>z▸hc) λ z=>(R.live a o e).imp λ o'=>kp a o' z
  ext:=R.ext
  nw:=R.nw
  Cp:=R.Cp
  Bh:=R.Bh
  gz:=R.gz}
theorem RF.G_{h':Heap}{i:Nat}{x:bI}{av:AV}{u:ak}(nd:ct.aS.Nodup)(R:RF F ct.aS G ρ σ s)(JJ:ct.aS[i]?=af x)(va:VR G ρ av u)(ax:At F.env h' x u)(ao:∀y w,y≠x->At F.env s.heap y w->At F.env h' y w):
  ∀(j:Nat) y v,ct.aS[j]?=af y->(setAt σ.loc i av)[j]?=af v->v≠ .undef->∃u,VR G ρ v u/\At F.env h' y u:=
 λ j y v e e' n=>Du e' (λ ji z=>z.symm▸⟨u,va,am (JJ.symm.trans (ji▸e))▸ax⟩) λ n1 e'=>(R.loc j y v e e' n).imp λ w=> .imp_right (ao y w λ z=>n1 ((nY (jr e) nd).mp (e.trans ((ah af z).trans JJ.symm))))
theorem DB{i:Nat}{x:bI}{av:AV}{u:ak}{Q:e9->ar->Prop}(O:gM P ct F)(R:RF F ct.aS G ρ σ s)(JJ:ct.aS[i]?=af x)(ck:F.env.kindOf x=af .local)(va:VR G ρ av u)
  (h:∀s',RF F ct.aS G ρ ⟨setAt σ.loc i av,σ.mem⟩ s'->Q () s'):WP P F.A (t9 F.env x u) Q s:=
 R.ns.elim λ m hm=>X.any<|wpAny_storeName_local ck hm (λ h' hn hs=>h _<|
  R.Zd hs R.Bi R.lG (λ aa f=>f.1) (hn.imp λ o h=>h.elim λ aa h=>h.elim λ aa h=>h.1) ⟨_,hn⟩ (λ y d e=>have h:=R.cell y d e; h.2.2.1.imp λ aa hv=>hv.sameBut hs h.1)
   (R.G_ O.vA JJ va (.inl ⟨ck,_,hn,dq rfl⟩) λ y w ne=> .imp (.imp_right λ h=>h.elim λ m' h=>⟨_,hn,(bC ne).trans ((Oh hm h.1 y).trans h.2)⟩) (.imp_right<| .imp λ c h=>⟨h.1,h.2.sameBut hs (R.cell y c h.1).1⟩))) (by rw[O.kind]; rfl)
theorem Fz{i:Nat}{x:bI}{av:AV}{u:ak}{Q:e9->ar->Prop}(O:gM P ct F)(R:RF F ct.aS G ρ σ s)(JJ:ct.aS[i]?=af x)(hro:F.ro=false){c:au}(hc:F.env.cells.lookup x=af c)(ck:F.env.kindOf x=af .cell)(va:VR G ρ av u)
  (h:∀s',RF F ct.aS G ρ ⟨setAt σ.loc i av,σ.mem⟩ s'->Q () s'):WP P F.A (t9 F.env x u) Q s:=
 have k:=R.cell x c hc
 k.2.2.1.elim λ td hv=>X.any<|wpAny_storeName_cell O.kind ck hc hv λ h' hv' hs=>h _<|
  R.Zd hs k.2.1 (k.2.2.2 ck) (λ aa f z=>f.2 hro x ck (z▸hc)) (hv'.imp λ aa h=>h.1) (R.ns.imp λ aa hm=>hm.sameBut hs (Ne.symm k.1))
   (λ y d e=>(d5 (d=c)).elim (λ z=>z▸⟨_,hv'⟩) λ z=>(R.cell y d e).2.2.1.imp λ aa hv=>hv.sameBut hs z)
   (R.G_ O.vA JJ va (.inr ⟨.inl ck,c,hc,hv'⟩) λ y w ne=> .imp (.imp_right<| .imp λ aa h=>⟨h.1.sameBut hs (Ne.symm k.1),h.2⟩) (.imp_right<| .imp λ d h=>⟨h.1,h.2.sameBut hs λ z=>ne (R.p6 y x c (z▸h.1) hc)⟩))
theorem tY{i:Nat}{x:bI}{av:AV}{u:ak}{Q:e9->ar->Prop}(O:gM P ct F)(R:RF F ct.aS G ρ σ s)(c:o9 ct i x=true)(va:VR G ρ av u)
  (h:∀s',RF F ct.aS G ρ ⟨setAt σ.loc i av,σ.mem⟩ s'->Q () s'):WP P F.A (t9 F.env x u) Q s:=
 have kn:F.env.kindOf x=ct.names.lookup x:=ah (FV x) O.names
 (g8.mp (aF c).2).elim (λ ck=>DB O R (a4.mp (aF c).1) (kn.trans (a4.mp ck)) va h)
  λ ck=>have e:=a4.mp (aF ck).2; (O.cells x e).elim λ aa hc=>Fz O R (a4.mp (aF c).1) (O.ro.trans (nb (aF ck).1)) hc (kn.trans e) va h
noncomputable def Fd.now(F:Fd)(G:BM)(ρ:ae au)(s:ar):Fd:={F with h₀:=s.heap,gJ:=ρ,G₀:=G,Z:=s}
theorem gM.now(O:gM P ct F)(R:RF F ct.aS G ρ σ s):gM P ct (F.now G ρ s):=⟨O.kind,O.names,O.glob,O.blt,O.room,R.i8 O,O.vA,O.ro,O.cells,λ e=>R.ext.get (O.tb e),O.cq⟩
theorem RF.now(R:RF F ct.aS G ρ σ s):RF (F.now G ρ s) ct.aS G ρ σ s:=
 ⟨R.rm,R.ns,R.loc,R.lG,R.Bi,R.cell,R.p6,λ aa aa aa aa e=>e,λ aa o e=>⟨o,e⟩,Ext.refl _,λ aa h=> .inl h,dG.refl _,λ aa aa e=> .inl e,GZ.of ⟨rfl,rfl,rfl⟩⟩
theorem RF.then{G':BM}{ρ':ae au}{b7:St}(R:RF F ct.aS G ρ σ s)(R':RF (F.now G ρ s) ct.aS G' ρ' b7 s'):RF F ct.aS G' ρ' b7 s':=
 ⟨R'.rm,R'.ns,R'.loc,R'.lG,R'.Bi,R'.cell,R'.p6,λ a o n f e=>R'.keep a o (λ hm=>(R.nw a hm).elim n λ q=>dh q e) f (R.keep a o n f e),λ a o e=>(R.live a o e).elim λ o' e'=>R'.live a o' e',R.ext.trans R'.ext,
  λ a h=>(R'.nw a h).elim (R.nw a) λ q=> .inr (R.dead q),R.Cp.trans R'.Cp,λ a o e=>(R'.Bh a o e).elim (R.Bh a o) λ q=> .inr (R.dead q),R.gz.trans R'.gz⟩
end
section
variable{P:cC}{ct:Ct}
theorem D2.fk{t:AF}{a:Fl}{s:AS}{σ:St}{R:(Fl->St->Prop)->Prop}(ga:GF t a)(gs:GS s σ)(k:∀K:Fl->St->Prop,K a σ->R K):D2 R GF [(t,s)]:=(D2.ret ga gs).eq k
def sv(l:ae TV)(i:Nat)(v:TV):ae TV:=Nc v l i
theorem dH.AH{t:TV}{u:AV}(g:GV t u):∀{ts:ae TV} {i:Nat} {us:ae AV},dH ts us->dH (sv ts i t) (setAt us i u)
 |[],_=>λ h=>h.u0 (Q:=λ us=>dH [] (setAt us _ u)) rfl
 |_::ts,0=>λ h=>h.uc (Q:=λ us=>dH (t::ts) (setAt us 0 u)) λ aa aa aa h=> .cons g h
 |a::ts,i+1=>λ h=>h.uc (Q:=λ us=>dH (a::sv ts i t) (setAt us (i+1) u)) λ aa aa a h=> .cons a (dH.AH g h)
theorem dH.set{ts:ae TV}{us:ae AV}(i:Nat){t:TV}{u:AV}(h:dH ts us)(g:GV t u):dH (sv ts i t) (setAt us i u):=dH.AH g h
def AS.set(s:AS)(i:Nat)(t:TV):AS:=⟨sv s.loc i t,s.mem⟩
noncomputable def Zv(p:c9):SX P ct where
 bA:= .Pass p
 run:=λ σ K=>K .d8 σ
 ch:=true
 ok:=λ aa F G ρ σ s Kv O R h=>X.any<|wpAny_Pass ⟨G,ρ, .d8,σ,dG.refl _,Ext.refl _,R,rfl,h⟩
 ab:=λ s=>af [(.d8,s)]
 cO:=λ aa s outs h σ gs=>D2.one h rfl gs λ aa k=>k
noncomputable def Ft(e:SE P ct)(p:c9):SX P ct where
 bA:= .Return (af e.bA) p
 run:=λ σ K=>e.run σ λ v aI=>K (.ret v) aI
 ch:=e.ch
 ok:=λ c F G ρ σ s Kv O R h=>X.uf (X.mono (e.ok c F G ρ σ s _ O R h) λ v s₁ z=>z.u λ G' ρ' a b7 g x R' va k=>⟨G',ρ', .ret a,b7,g,x,R',⟨v,rfl,va⟩,k⟩)
 ab:=Kh e.ab λ t s=>af [(.ret t,s)]
 cO:=λ fo=>nJ fo λ t s outs a σ h ga gs=>D2.one h ⟨a,rfl,ga⟩ gs λ K z=>z
noncomputable def Zx(p:c9):SX P ct where
 bA:= .Return none p
 run:=λ σ K=>K (.ret .none) σ
 ch:=true
 ok:=λ aa F G ρ σ s Kv O R h=>X.any<|wpAny_Return_none ⟨G,ρ, .ret .none,σ,dG.refl _,Ext.refl _,R,⟨_,rfl,VR.none_⟩,h⟩
 ab:=λ s=>af [(.ret (.ex .none),s)]
 cO:=λ aa s outs h σ gs=>D2.one h ⟨_,rfl,rfl⟩ gs λ K z=>z
theorem PF.d8{F:Fd}{aS:ae bI}{G G':BM}{ρ ρ':ae au}{b7:St}{s':ar}{K:Fl->St->Prop}(g:dG G G')(x:Ext ρ ρ')(R:RF F aS G' ρ' b7 s')(h:K .d8 b7):PF F aS G ρ K .next s':=
 ⟨G',ρ', .d8,b7,g,x,R,rfl,h⟩
def St.set(σ:St)(i:Nat)(v:AV):St:=⟨setAt σ.loc i v,σ.mem⟩
def M0(i:Nat)(p':c9)(e:SE P ct)(p:c9):SX P ct where
 bA:= .Assign [.Name (He ct i) p'] e.bA p
 run:=λ σ K=>e.run σ λ v aI=>K .d8 (aI.set i v)
 ch:=o9 ct i (He ct i)&&(vt 2 e.bA&&e.ch)
 ok:=λ c F G ρ σ s Kv O R h=>X.Bw (HI (aF (aF c).2).1) (X.mono (e.ok (aF (aF c).2).2 F G ρ σ s _ O R h) λ v s₁ z=>z.u λ G' ρ' a b7 g x R' va k=>tY O R' (aF c).1 va λ s' Ba=>PF.d8 g x Ba k)
 ab:=Kh e.ab λ t s=>af [(.d8,s.set i t)]
 cO:=λ fo=>nJ fo λ t s outs a σ h ga gs=>D2.one (σ:=σ.set i a) h rfl ⟨gs.loc.set i ga,gs.mem⟩ λ K z=>z
def ac4(i:Nat)(p':c9)(op:cH)(e:SE P ct)(p:c9):SX P ct where
 bA:= .AugAssign (.Name (He ct i) p') op e.bA p
 run:=λ σ K=>ldK (fC σ.loc i) σ λ a aI=>e.run aI λ b aV=>zP op a b aV λ r dC=>K .d8 (dC.set i r)
 ch:=Ar ct i (He ct i)&&(o9 ct i (He ct i)&&e.ch)
 ok:=λ c F G ρ σ s Kv O R h=>X.vT (X.mono (X.any (CP O R (aF c).1 h)) λ v s₁ z=>by
  exact z.u λ dW c8 a aI fK fh dS va bH=>X.mono (e.ok (aF (aF c).2).2 F dW c8 aI s₁ _ O dS bH) λ u bp z=>z.u λ jp g6 b aV jf ju gN vb cW=>
   X.mono (X.any (r3 gN (va.up jf ju) vb cW)) λ r fW z=>z.u λ rP k9 r' dC kJ kQ lD vr fH=>tY O lD (aF (aF c).2).1 vr λ s' Ba=>PF.d8 (fK.trans (jf.trans kJ)) (fh.trans (ju.trans kQ)) Ba fH)
 ab:=λ s=>bO (aLd s i) λ t s=>bO (e.ab s) λ u s=>bO (J6 op t u s) λ r s=>af [(.d8,s.set i r)]
 cO:=λ fo s outs h σ gs=>ob.u h λ l e1 h=>D2.bind (Ka e1 gs) h λ t s' l' h' a b7 ga p_=>(e.cO fo).bind h' p_ λ u bp l₂ cW b aV gb og=>ob.u cW λ agu e3 cW=>
  D2.bind (OU e3 ga gb og) cW λ r fW agv fH c dC gc Sh=>D2.one (σ:=dC.set i c) fH rfl ⟨Sh.loc.set i gc,Sh.mem⟩ λ K z=>z
noncomputable def lK:SS P ct where
 bA:=[]
 run:=λ σ K=>K .d8 σ
 ch:=true
 ok:=λ aa F G ρ σ s Kv O R h=>X.any<|wpAny_execs_nil (PF.d8 (dG.refl _) (Ext.refl _) R h)
 ab:=λ s=>af [(.d8,s)]
 cO:=λ aa s outs h σ gs=>D2.one h rfl gs λ aa k=>k
def sd(f:Fl)(σ:St)(d8:St->Prop)(K:Fl->St->Prop):Prop:=match f with
 | .d8=>d8 σ
 | .ret v=>K (.ret v) σ
noncomputable def aFl(f:AF)(s:AS)(nx:AS->aq (ae (AF×AS))):aq (ae (AF×AS)):=match f with
 | .d8=>nx s
 | .ret t=>af [(.ret t,s)]
theorem Eh{f:AF}{s:AS}{nx:AS->aq (ae (AF×AS))}{l:ae (AF×AS)}{a:Fl}{σ:St}{C:St->(Fl->St->Prop)->Prop}(hn:Ab nx C GF)(h:aFl f s nx=af l)(ga:GF f a)(gs:GS s σ):D2 (λ K=>sd a σ (λ aV=>C aV K) K) GF l:=by
 rcases f with _|t
 ·exact(show a= .d8 from ga)▸hn s l h σ gs
 ·exact aD ga λ v g=>g.1▸D2.one h ⟨v,rfl,g.2⟩ gs λ K z=>z
noncomputable def iH(x:SX P ct)(r:SS P ct):SS P ct where
 bA:=x.bA::r.bA
 run:=λ σ K=>x.run σ λ f aI=>sd f aI (λ aV=>r.run aV K) K
 ch:=x.ch&&r.ch
 ok:=λ c F G ρ σ s Kv O R h=>X.execs_cons (X.mono (x.ok (aF c).1 F G ρ σ s _ O R h) λ f s₁ z=>z.u λ G' ρ' fl b7 g x R' fr k=>match fl,fr,k with
  | .d8,fr,k=>(show f= .next from fr).symm▸X.mono (r.ok (aF c).2 F G' ρ' b7 s₁ _ O R' k) λ aa aa=>PF.up g x
  | .ret v,fr,k=>aD fr λ u e=>e.1.symm▸⟨G',ρ', .ret v,b7,g,x,R',⟨u,rfl,e.2⟩,k⟩)
 ab:=λ s=>bO (x.ab s) λ f s=>aFl f s r.ab
 cO:=λ fo s outs h σ gs=>(x.cO fo).bind h gs λ f s' l h' a b7 ga p_=>Eh (r.cO fo) h' ga p_
noncomputable def sIf(t:ST P ct)(a b:SS P ct)(p:c9):SX P ct where
 bA:= .If t.bA a.bA b.bA p
 run:=λ σ K=>t.run σ λ c aI=>aX c (a.run aI K) (b.run aI K)
 ch:=t.ch&&(a.ch&&b.ch)
 ok:=λ c F G ρ σ s Kv O R h=>X.If (X.mono (t.ok (aF c).1 F G ρ σ s _ O R h) λ v s₁ z=>z.u λ G' ρ' b7 g x R' k=>match v,k with
  |false,k=>X.mono (b.ok (aF (aF c).2).2 F G' ρ' b7 s₁ _ O R' k) λ aa aa=>PF.up g x
  |true,k=>X.mono (a.ok (aF (aF c).2).1 F G' ρ' b7 s₁ _ O R' k) λ aa aa=>PF.up g x)
 ab:=λ s=>bO (t.ab s) λ c s=>aX c (a.ab s) (b.ab s)
 cO:=λ fo s outs h σ gs=>(t.cO fo).bind h gs λ c s' l h' c' b7 ga p_=>ga▸match c,h' with
  |false,h'=>b.cO fo s' l h' b7 p_
  |true,h'=>a.cO fo s' l h' b7 p_
noncomputable def lZ(t:St->(aC->St->Prop)->Prop)(b:St->(Fl->St->Prop)->Prop):Nat->St->(Fl->St->Prop)->Prop
 |0,_,_=>False
 |n+1,σ,K=>t σ λ c aI=>aX c (b aI λ f aV=>sd f aV (λ dC=>lZ t b n dC K) K) (K .d8 aI)
noncomputable def Wb(t:AS->aq (ae (aC×AS)))(b:AS->aq (ae (AF×AS))):Nat->AS->aq (ae (AF×AS))
 |0,_=>none
 |n+1,s=>bO (t s) λ c s=>aX c (bO (b s) λ f s=>aFl f s (Wb t b n)) (af [(.d8,s)])
theorem HW{ta:AS->aq (ae (aC×AS))}{ba:AS->aq (ae (AF×AS))}{t:St->(aC->St->Prop)->Prop}{b:St->(Fl->St->Prop)->Prop}(ht:Ab ta t Eq)(hb:Ab ba b GF):∀n,Ab (Wb ta ba n) (lZ t b n) GF
 |0=>λ aa aa h=>cu h
 |n+1=>λ s outs h σ gs=>ht.bind h gs λ c s' l h' c' b7 ga p_=>ga▸match c,h' with
  |false,h'=>D2.one h' rfl p_ λ K z=>z
  |true,h'=>hb.bind h' p_ λ f bp l₂ cW a aV ga og=>Eh (HW ht hb n) cW ga og
noncomputable def M3(t:ST P ct)(b:SS P ct)(p:c9):SX P ct where
 bA:= .While t.bA b.bA [] p
 run:=λ σ K=>∃N,lZ t.run b.run N σ K
 ch:=t.ch&&b.ch
 ok:=λ c F G ρ σ s Kv O R h=>X.While (h.elim λ N h=>X.whileLoop (λ n s'=>PB F ct.aS G ρ (λ aa b7=>lZ t.run b.run n b7 Kv) true s') (λ n s' hI=>hI.u λ dW c8 aI fK fh dS bH=>match n,bH with
  |0,bH=>bH.elim
  |n+1,bH=>X.mono (t.ok (aF c).1 F dW c8 aI s' _ O dS bH) λ v bp z=>z.u λ jp g6 aV jf ju gN cW=>match v,cW with
   |false,cW=>PF.d8 (fK.trans jf) (fh.trans ju) gN cW
   |true,cW=>X.mono (b.ok (aF c).2 F jp g6 aV bp _ O gN cW) λ f fW z=>z.u λ rP k9 fl dC kJ kQ lD fr fH=>match fl,fr,fH with
    | .d8,fr,fH=>(show f= .next from fr).symm▸⟨n,jo n,rP,k9,dC,fK.trans (jf.trans kJ),fh.trans (ju.trans kQ),lD,fH⟩
    | .ret v,fr,fH=>aD fr λ u e=>e.1.symm▸⟨rP,k9, .ret v,dC,fK.trans (jf.trans kJ),fh.trans (ju.trans kQ),lD,⟨u,rfl,e.2⟩,fH⟩) N ⟨G,ρ,σ,dG.refl _,Ext.refl _,R,h⟩)
 ab:=Wb t.ab b.ab 12
 cO:=λ fo s outs h σ gs=>(HW (t.cO fo) (b.cO fo) 12 s outs h σ gs).eq λ K z=>⟨12,z⟩
end
def St.put(σ:St)(p:Nat)(o:AO):St:=⟨σ.loc,bz σ.mem p o⟩
def pG(m:ae AO)(p:Nat)(K:AO->Prop):Prop:=match bM m p with
 |some o=>K o
 |none=>False
theorem pG.u{m:ae AO}{p:Nat}{K:AO->Prop}{Q:Prop}(h:pG m p K)(k:∀o,bM m p=af o->K o->Q):Q:=by
 unfold pG at h
 cases e:bM m p with
 |none=>rw[e] at h; exact h.elim
 |some o=>rw[e] at h; exact k o e h
theorem Hm{m:ae AO}{p:Nat}{K:AO->Prop}(h:pG m p K):∃o,m[p]?=af o/\K o:=h.u λ o e k=>⟨o,(eL m p).symm.trans e,k⟩
theorem dI{m:ae AO}{p:Nat}{o:AO}{K:AO->Prop}(h:bM m p=af o)(k:K o):pG m p K:=by unfold pG; rw[h]; exact k
noncomputable def need(p:Prop)[fD p](k:Prop):Prop:=aX (decide p) k False
theorem need.u{p:Prop}[d:fD p]{k Q:Prop}(h:need p k)(f:p->k->Q):Q:=by
 cases d with
 |isTrue e=>exact f e h
 |isFalse e=>exact h.elim
theorem Qi{p:Prop}[fD p]{k:Prop}(h:need p k):p/\k:=h.u .intro
theorem TP{p:Prop}[fD p]{k:Prop}(q:p)(h:k):aX (decide p) k False:=(cz q).symm▸h
def I1(o:aq AV)(K:AV->Prop):Prop:=match o with
 |some v=>K v
 |none=>False
theorem I1.u{o:aq AV}{K:AV->Prop}{Q:Prop}(h:I1 o K)(k:∀v,o=af v->K v->Q):Q:=by
 rcases o with _|v
 ·exact h.elim
 ·exact k v rfl h
theorem se{o:aq AV}{K:AV->Prop}{v:AV}(e:o=af v)(k:K v):I1 o K:=e▸k
theorem Tw{k x:Nat}(q:k≠x):a_ k x=false:=by
 cases h:a_ k x with
 |false=>rfl
 |true=>exact bt (aL h) q
theorem Mp{k x:Nat}(q:a_ k x=false):k≠x:=λ e=>by rw[e,uM] at q; cases q
section
variable{k x:Nat}{ks:ae Nat}{h:Int}{t:kq}{u:ak}{es:ae bf}{us:ae ak}
theorem ue.u0{Q:ae bf->ae ak->Prop}(h:ue [] es us)(f:Q [] []):Q es us:=(eG h)▸(f_ h)▸f
theorem ue.uc{Q:ae bf->ae ak->Prop}(h:ue (k::ks) es us)(f:∀h t u es us,k < NM->ue ks es us->Q (⟨h, .str (nm k) t,u⟩::es) (u::us)):Q es us:=
 aD h λ aa h=>h.elim λ aa h=>h.elim λ aa h=>h.elim λ aa h=>h.elim λ aa h=>h.1▸h.2.1▸f _ _ _ _ _ h.2.2.1 h.2.2.2
theorem ue.cons(hk:k < NM)(r:ue ks es us):ue (k::ks) (⟨h, .str (nm k) t,u⟩::es) (u::us):=⟨h,t,u,es,us,rfl,rfl,hk,r⟩
theorem Sz(hk:k < NM)(hx:x < NM)(q:k=x):(nm k==nm x)=true:=(Fg hk hx).trans (a4.mpr q)
theorem SA(hk:k < NM)(hx:x < NM)(q:k≠x):(nm k==nm x)=false:=(Fg hk hx).trans (d_.mpr q)
theorem Li(e:(nm k==nm x)=true):getL (nm x) (⟨h, .str (nm k) t,u⟩::es)=af (af u):=by
 unfold getL
 rw[xC,show((⟨h, .str (nm k) t,u⟩:bf).key.isStr (nm x))=true from e]
theorem yV(e:(nm k==nm x)=false):getL (nm x) (⟨h, .str (nm k) t,u⟩::es)=getL (nm x) es:=by
 unfold getL
 rw[xC,show((⟨h, .str (nm k) t,u⟩:bf).key.isStr (nm x))=false from e]; rfl
theorem ML{hs:Int}{key v:ak}(e:(nm k==nm x)=true):putL (nm x) hs key v (⟨h, .str (nm k) t,u⟩::es)=⟨h, .str (nm k) t,v⟩::es:=dq e
theorem I9{hs:Int}{key v:ak}(e:(nm k==nm x)=false):putL (nm x) hs key v (⟨h, .str (nm k) t,u⟩::es)=⟨h, .str (nm k) t,u⟩::putL (nm x) hs key v es:=bC λ z=>ay (e.symm.trans z)
end
theorem Mb{G:BM}{ρ:ae au}{x:Nat}{v:AV}(hx:x < NM):∀{ks:ae Nat} {vs:ae AV} {es:ae bf} {us:ae ak},lk ks vs x=af v->ue ks es us->bJ G ρ vs us->
  ∃u,getL (nm x) es=af (af u)/\VR G ρ v u
 |[],_,_,_=>λ h aa aa=>cu h
 |_::_,[],_,_=>λ h aa aa=>cu h
 |k::ks,w::vs,_,_=>λ h hk hv=>hk.uc (Q:=λ es us=>bJ G ρ (w::vs) us->∃u,getL (nm x) es=af (af u)/\VR G ρ v u) (λ aa aa u aa aa kn hk hv=>
   condB h (λ e h=>⟨u,Li (Sz kn hx (aL e)),am h▸hv.cc.1⟩) λ e h=>(yV (SA kn hx (Mp e))).symm▸Mb hx h hk hv.cc.2) hv
section
variable{G:BM}{ρ:ae au}{x:Nat}{hsh:Int}{t:kq}{v:AV}{u:ak}
def Oj(G:BM)(ρ:ae au)(ks:ae Nat)(vs:ae AV)(es:ae bf):Prop:=∃us,ue ks es us/\bJ G ρ vs us
theorem ue.put(hx:x < NM)(hu:VR G ρ v u):∀{ks:ae Nat} {vs:ae AV} {es:ae bf} {us:ae ak},ue ks es us->bJ G ρ vs us->Oj G ρ (putK ks x) (Ja ks vs x v) (putL (nm x) hsh (.str (nm x) t) u es)
 |[],vs,_,_=>λ hk hv=>hk.u0 (Q:=λ es us=>bJ G ρ vs us->Oj G ρ [x] (Ja [] vs x v) (putL (nm x) hsh (.str (nm x) t) u es)) (λ aa=>⟨[u], .cons hx ⟨rfl,rfl⟩, .cons hu .nil⟩) hv
 |k::ks,[],_,_=>λ hk hv=>hk.uc (Q:=λ es us=>bJ G ρ [] us->Oj G ρ (putK (k::ks) x) (Ja (k::ks) [] x v) (putL (nm x) hsh (.str (nm x) t) u es)) (λ aa aa aa aa aa aa aa hv=>bt (show _::_=[] from hv) (lM _ _)) hv
 |k::ks,w::vs,_,_=>λ hk hv=>hk.uc (Q:=λ es us=>bJ G ρ (w::vs) us->Oj G ρ (nh a_ (k::ks) x) (jX a_ (k::ks) (w::vs) x v) (putL (nm x) hsh (.str (nm x) t) u es)) (λ hh t' u' es us kn hk hv=>by
   cases q:a_ k x with
   |true=>rw[qE q,ou q,ML (Sz kn hx (aL q))]; exact⟨u::us,hk.cons kn, .cons hu hv.cc.2⟩
   |false=>rw[mN q,lp q,I9 (SA kn hx (Mp q))]; exact(ue.put hx hu hk hv.cc.2).elim λ us h=>⟨u'::us,h.1.cons kn, .cons hv.cc.1 h.2⟩) hv
end
theorem ue.len:∀{ks:ae Nat} {es:ae bf} {us:ae ak},ue ks es us->es.length=ks.length
 |[],_,_=>λ h=>h.u0 (Q:=λ es aa=>es.length=0) rfl
 |_::ks,_,_=>λ h=>h.uc (Q:=λ es aa=>es.length=ks.length+1) λ aa aa aa aa aa aa h=>ah (·+1) h.len
theorem ue.noRef:∀{ks:ae Nat} {es:ae bf} {us:ae ak},ue ks es us->es.any (·.refKey)=false
 |[],_,_=>λ h=>h.u0 (Q:=λ es aa=>es.any (·.refKey)=false) rfl
 |_::_,_,_=>λ h=>h.uc (Q:=λ es aa=>es.any (·.refKey)=false) λ aa aa aa aa aa aa h=>h.noRef
section
variable{P:cC}
def Fk(o:AO)(K:au->Nat->Prop):Prop:=match o with
 | .inst C j=>K C j
 |_=>False
def Qu(o:AO)(K:ae Nat->ae AV->Prop):Prop:=match o with
 | .ns ks vs=>K ks vs
 |_=>False
def C_(m:ae AO)(p:Nat)(K:au->Nat->ae Nat->ae AV->Prop):Prop:=pG m p λ o=>Fk o λ C j=>pG m j λ o=>Qu o λ ks vs=>K C j ks vs
theorem Fk.u{o:AO}{K:au->Nat->Prop}{Q:AO->Prop}(h:Fk o K)(k:∀C j,K C j->Q (.inst C j)):Q o:=by
 rcases o with _|_|⟨C,j⟩|_|_|_|_|_
 all_goals first|exact h.elim|exact k C j h
theorem Qu.u{o:AO}{K:ae Nat->ae AV->Prop}{Q:AO->Prop}(h:Qu o K)(k:∀ks vs,K ks vs->Q (.ns ks vs)):Q o:=by
 rcases o with _|_|_|⟨ks,vs⟩|_|_|_|_
 all_goals first|exact h.elim|exact k ks vs h
theorem C_.u{m:ae AO}{p:Nat}{K:au->Nat->ae Nat->ae AV->Prop}{Q:Prop}(h:C_ m p K)(k:∀C j ks vs,bM m p=af (.inst C j)->bM m j=af (.ns ks vs)->K C j ks vs->Q):Q:=
 pG.u h λ o e h=>h.u (Q:=λ o=>bM m p=af o->Q) (λ C j h e=>pG.u h λ o e2 h=>h.u (Q:=λ o=>bM m j=af o->Q) (λ ks vs h e2=>k C j ks vs e e2 h) e2) e
theorem Ax{m:ae AO}{p j:Nat}{C:au}{ks:ae Nat}{vs:ae AV}{K:au->Nat->ae Nat->ae AV->Prop}(e:bM m p=af (.inst C j))(e2:bM m j=af (.ns ks vs))(k:K C j ks vs):C_ m p K:=
 dI e (dI (K:=λ o=>Qu o λ ks vs=>K C j ks vs) e2 k)
def PC(P:cC)(a:AV)(x:Nat)(mem:ae AO)(K:AV->Prop):Prop:=match a with
 | .own p=>C_ mem p λ C aa ks vs=>cK (P.at_ C x) (I1 (lk ks vs x) K)
 | .inst C ks vs=>cK (P.at_ C x) (I1 (lk ks vs x) K)
 |_=>False
def lI(a:AV)(K:Nat->Prop):Prop:=match a with
 | .own p=>K p
 |_=>False
theorem lI.u{a:AV}{K:Nat->Prop}{Q:AV->Prop}(h:lI a K)(k:∀p,K p->Q (.own p)):Q a:=by
 rcases a with _|_|_|_|_|p|_|_|_|_|_|_|_|_|_|_|_|_
 all_goals first|exact h.elim|exact k p h
def Nb(P:cC)(a:AV)(x:Nat)(v:AV)(σ:St)(K:St->Prop):Prop:=lI a λ p=>C_ σ.mem p λ C j ks vs=>cK (P.at_ C x&&bB ks.length 50) (K (σ.put j (.ns (putK ks x) (Ja ks vs x v))))
theorem VR.handed{G:BM}{ρ:ae au}{a:AV}{v:ak}(h:VR G ρ a v):xO v=true:=by
 have r:∀{x},v=x->xO x=true->xO v=true:=λ h k=>h▸k
 rcases a with _|_|_|_|_|_|_|_|_|_|_|_|_|_|_|_|_|_
 case undef=>exact h.elim
 case none=>exact r h rfl
 case bool=>exact r h rfl
 case int=>exact aD h λ aa h=>r h rfl
 case ky=>exact aD h λ aa h=>r h rfl
 case val=>exact r (eG h) (f_ h)
 case any=>exact h
 all_goals exact(VR.isRef h rfl).elim λ aa h=>r h rfl
theorem sw{K:eI}{C:au}{x:bI}(h:tz K C x=true):plainGet K C x=true/\hasDictIn K C=true/\(∃a,findIn K (.ref C) x=af a/\noGet K a=true)/\
  findIn K (.ref C) "__setattr__"=af (af (.builtin "object.__setattr__"))/\plainOver K C=true/\takerIn K C x=af none:=by
 have h1:=aF h
 have h2:=aF h1.1
 have h3:=aF h2.1
 have h4:=aF h3.1
 have h5:=aF h4.1
 refine⟨h5.1,h5.2,?_,a4.mp h3.2,h2.2,a4.mp h1.2⟩
 have c:=h4.2
 cases e:findIn K (.ref C) x with
 |none=>rw[e] at c; cases c
 |some a=>rw[e] at c; exact⟨a,rfl,c⟩
theorem Lk{A:bn}{s:ar}{K:eI}{C x d:au}{prog:aK}{w:bw}{es:ae bf}{n:Nat}{name:bI}{v:ak}{Q:ak->ar->Prop}{e:aC}(X:K.In s.heap)(ok:tz K C name=true)
  (hx:s.heap.get? x=af (gC C d)) (hd:s.heap.get? d=af (nz es n)) (hl:getL name es=af (af v)) (hv:xO v=true) (h:Q v {s with toks:=s.toks+1}):
  aH (aE prog w) A (getAttr (.ref x) name e) Q dw s:=by
 have o:=sw ok
 exact o.2.2.1.elim λ c k=>get_value X (⟨hx,rfl,rfl,hd⟩:InstAt s.heap x (gC C d) C (af (nz es n))) (plainGet_of o.1).1 (findObj_own o.2.1 k.1 k.2 ((lookIn_dict ..).trans hl)) hv h
theorem RF.UA{F:Fd}{aS:ae bI}{G:BM}{ρ:ae au}{σ:St}{s:ar}{p j:Nat}{C:au}{ks:ae Nat}{vs:ae AV}{v:ak}{Q:ak->Prop}(R:RF F aS G ρ σ s)(va:VR G ρ (.own p) v)(e:bM σ.mem p=af (.inst C j))(e2:bM σ.mem j=af (.ns ks vs))
  (k:∀x d es n us,s.heap.get? x=af (gC C d)->ρ[j]?=af d->s.heap.get? d=af (nz es n)->ue ks es us->bJ G ρ vs us->Q (.ref x)):Q v:=
 va.Qv λ x hx=>(R.rm.obj p x _ hx ((eL ..).symm.trans e)).elim λ aa h=>h.2.elim λ d q=>(R.rm.obj j d _ q.1 ((eL ..).symm.trans e2)).elim λ aa h2=>h2.2.elim λ es q2=>q2.elim λ n q2=>q2.elim λ us q2=>
  k x d es n us (h.1.trans (ah af q.2)) q.1 (h2.1.trans (ah af q2.1)) q2.2.1 q2.2.2
theorem wB{ct:Ct}{F:Fd}{G:BM}{ρ:ae au}{σ:St}{s:ar}{C y d:au}{es:ae bf}{n:Nat}{us:ae ak}{ks:ae Nat}{vs:ae AV}{x:Nat}{Kv:AV->St->Prop}{e:aC}(O:gM P ct F)(R:RF F ct.aS G ρ σ s)
  (hx:s.heap.get? y=af (gC C d)) (hd:s.heap.get? d=af (nz es n)) (hk:ue ks es us) (hv:bJ G ρ vs us) (h:cK (P.at_ C x) (I1 (lk ks vs x) λ v=>Kv v σ)):
  aH (aE P.prog P.w) F.A (getAttr (.ref y) (nm x) e) (PE F ct.aS G ρ Kv) dw s:=
 h.u λ c h=>h.u λ aa e h=>have a:=P.attr _ _ c; (Mb a.1 e hk hv).elim λ aa w=>Lk (R.K O) a.2 hx hd w.1 w.2.handed (PE.toks R w.2 h)
theorem wz{ct:Ct}{F:Fd}{G:BM}{ρ:ae au}{σ:St}{s:ar}{a:AV}{u:ak}{x:Nat}{Kv:AV->St->Prop}{e:aC}(O:gM P ct F)(R:RF F ct.aS G ρ σ s)(va:VR G ρ a u)(h:PC P a x σ.mem λ v=>Kv v σ):
  aH (aE P.prog P.w) F.A (getAttr u (nm x) e) (PE F ct.aS G ρ Kv) dw s:=by
 rcases a with _|_|_|_|_|p|_|_|_|_|_|_|_|⟨C,ks,vs⟩|_|_|_|_
 case own=>exact C_.u h λ C j ks vs e1 e2 h=>R.UA (Q:=λ u=>aH (aE P.prog P.w) F.A (getAttr u (nm x) e) (PE F ct.aS G ρ Kv) dw s) va e1 e2 λ y d es n us h1 aa h3 h4 h5=>wB O R h1 h3 h4 h5 h
 case inst=>exact aD va λ y q=>q.elim λ d q=>q.elim λ es q=>q.elim λ n q=>q.elim λ us q=>q.1▸wB O R (R.rm.kg _ _ q.2.1) (R.rm.kg _ _ q.2.2.1) q.2.2.2.1 q.2.2.2.2 h
 all_goals exact h.elim
theorem Nf{A:bn}{s:ar}{K:eI}{C x d:au}{prog:aK}{w:bw}{es:ae bf}{n:Nat}{name:bI}{v:ak}{Q:e9->ar->Prop}(X:K.In s.heap)(ok:tz K C name=true)
  (hx:s.heap.get? x=af (gC C d)) (hd:s.heap.get? d=af (nz es n)) (hr:es.any (·.refKey)=false) (hz:(putL name (qt w.params name) (.str name (s.toks+1)) v es).length<=1000)
  (h:∀h',h'.get? d=af (nz (putL name (qt w.params name) (.str name (s.toks+1)) v es) (PySem.W.putN name es n))->(∀b o,b≠d->s.heap.get? b=af o->h'.get? b=af o)->Q () {s with heap:=h',toks:=s.toks+2}):
  aH (aE prog w) A (xP (.ref x) name v) Q dw s:=by
 obtain⟨_,hh,_,a,b,c⟩:=(sw ok)
 have I:InstAt s.heap x (gC C d) C (af (nz es n)):=⟨hx,rfl,rfl,hd⟩
 refine set_plain X I a (osa_open (s:={s with toks:=s.toks+1}) X I b c λ bb=>?_)
 obtain⟨cd,hc,Ls⟩:=any_some hh
 have D':=dK (Obj.putName name (qt w.params name) (.str name (s.toks+1)) v) hd (by rw[putName_dict]; rfl)
 rw[putName_dict] at D'
 refine aj (aw (aj (aj (wpAny_loadPart hx (aj ((looks_clsIn X hc _ _ _ _ (λ aa aa e=>e) ?_)))))))
 rw[Ls]
 refine aw (a:=af d) (aj (aw (aj ?_)))
 unfold nsSet
 refine aj (aj (iA (aw (aj (wpAny_mkText (aj (wpAny_loadPart hd ?_)))))))
 dsimp only
 have c:(!es.toArray.any (·.key.isStr name)&&es.toArray.any (·.refKey))=false:=by
  rw[← uJ,← uJ,hr,m7]
 rw[aRefKeyMayBeTheName_at,c]
 refine wpAny_updatePart hd ?_
 refine aj (wpAny_lookBehind D' (by exact pastItsLine_dict (by rw[cT,dZ]; omega)) ?_)
 exact aw (h _ D' λ b o n e=>(dF ..).extBut b o n e)
theorem RF.rx{F:Fd}{aS:ae bI}{G:BM}{ρ:ae au}{σ:St}{s s':ar}(R:RF F aS G ρ σ s){i:Nat}{a:au}{v8:AO}{o':Obj}(hi:ρ[i]?=af a)(he:s'.heap.get? a=af o')(q:OR G ρ v8 o')
  (k:∀b o,b≠a->s.heap.get? b=af o->s'.heap.get? b=af o) (z:s'.gens=s.gens/\s'.gens=s.gens/\s'.os=s.os):RF F aS G ρ (σ.put i v8) s':=by
 unfold St.put; rw[oj]; exact R.turn hi he q k z
theorem xb{ct:Ct}{F:Fd}{G:BM}{ρ:ae au}{σ:St}{s:ar}{a v:AV}{u y:ak}{x:Nat}{K:St->Prop}{Q:e9->ar->Prop}(O:gM P ct F)(R:RF F ct.aS G ρ σ s)(va:VR G ρ a u)(vv:VR G ρ v y)(h:Nb P a x v σ K)
  (hq:∀b7 s',RF F ct.aS G ρ b7 s'->K b7->Q () s'):aH (aE P.prog P.w) F.A (xP u (nm x) y) Q dw s:=
 h.u (Q:=λ a=>VR G ρ a u->aH (aE P.prog P.w) F.A (xP u (nm x) y) Q dw s) (λ p h va=>h.u λ C j ks vs e1 e2 h=>R.UA (Q:=λ u=>aH (aE P.prog P.w) F.A (xP u (nm x) y) Q dw s) va e1 e2 λ z d es n us h1 h2 h3 h4 h5=>h.u λ c h=>
  have a:=P.attr _ _ (aF c).1
  (h4.put (hsh:=qt P.w.params (nm x)) (t:=s.toks+1) a.1 vv h5).elim λ ry w=>
   Nf (R.K O) a.2 h1 h3 h4.noRef (w.1.len.symm▸aG (zf ks) (aG (eH (aQ (aF c).2)) (by decide))) λ h' k1 k2=>
    hq _ _ (R.rx (v8:= .ns (putK ks x) (Ja ks vs x v)) (s':={s with heap:=h',toks:=s.toks+2}) h2 k1 ⟨_,_,ry,rfl,w.1,w.2⟩ k2 ⟨rfl,rfl,rfl⟩) h) va
end
section
variable{P:cC}{ct:Ct}
abbrev tlk:ae Nat->ae TV->Nat->aq TV:=E7 a_
abbrev ZT:ae Nat->ae TV->Nat->TV->ae TV:=jX a_
theorem GS.inst{s:AS}{σ:St}{p:Nat}{o o2:TO}{c:{c:au×Nat // o= .inst c.1 c.2}}{kv:{c:ae Nat×ae TV // o2= .ns c.1 c.2}}{Q:Prop}(gs:GS s σ)(h1:gU s.mem p=af o)(h2:gU s.mem c.1.2=af o2)
  (k:∀us,bM σ.mem p=af (.inst c.1.1 c.1.2)->bM σ.mem c.1.2=af (.ns kv.1.1 us)->dH kv.1.2 us->Q):Q:=
 (gs.mem.get p (.inst c.1.1 c.1.2) (h1.trans (ah af c.2))).elim λ aa m1=>(gs.mem.get c.1.2 (.ns kv.1.1 kv.1.2) (h2.trans (ah af kv.2))).elim λ aa m2=>aD m2.2 λ us g=>k us (m1.1.trans (ah af m1.2)) (m2.1.trans (ah af g.1)) g.2
def W2(P:cC)(t:TV)(x:Nat)(s:AS):aq {u:TV // ∀a σ,GV t a->GS s σ->∃v,GV u v/\∀K:AV->Prop,K v->PC P a x σ.mem K}:=
 oe (ob (nR t) λ p=>jN (gU s.mem p.1) λ o ho=>ob (Hg o) λ c=>jN (gU s.mem c.1.2) λ o2 h2=>ob (oNs o2) λ kv=>bE (P.at_ c.1.1 x) λ hx=>jN (tlk kv.1.1 kv.1.2 x) λ u hu=>af ⟨u,λ a σ ga gs=>
  gs.inst ho h2 λ us m1 m2 g=>(Am g hu).elim λ v z=>⟨v,z.2,λ K k=>(show a= .own p.1 from(p.2▸ga:GV (.ex _) a)).symm▸Ax m1 m2 (cK.i hx (se z.1 k))⟩⟩)
 (ob (S2 t) λ c=>bE (P.at_ c.1.1 x) λ hx=>jN (lk c.1.2.1 c.1.2.2 x) λ v hv=>af ⟨.ex v,λ a σ ga gs=>
  ⟨v,rfl,λ K k=>(show a= .inst c.1.1 c.1.2.1 c.1.2.2 from(c.2▸ga:GV (.ex _) a)).symm▸cK.i hx (se hv k)⟩⟩)
def AS.put(s:AS)(j:Nat)(o:TO):AS:=⟨s.loc,q5 s.mem j o⟩
def W5(P:cC)(t:TV)(x:Nat)(u:TV)(s:AS):aq {s':AS // ∀a v σ,GV t a->GV u v->GS s σ->∃b7,GS s' b7/\∀K:St->Prop,K b7->Nb P a x v σ K}:=
 ob (nR t) λ p=>jN (gU s.mem p.1) λ o ho=>ob (Hg o) λ c=>jN (gU s.mem c.1.2) λ o2 h2=>ob (oNs o2) λ kv=>bE (P.at_ c.1.1 x&&bB kv.1.1.length 50) λ hx=>bE (a_ kv.1.1.length kv.1.2.length) λ hl=>af ⟨s.put c.1.2 (.ns (putK kv.1.1 x) (ZT kv.1.1 kv.1.2 x u)),λ a v σ ga gv gs=>
  gs.inst ho h2 λ us m1 m2 g=>⟨σ.put c.1.2 (.ns (putK kv.1.1 x) (Ja kv.1.1 us x v)),⟨gs.loc,gs.mem.set (o:= .ns kv.1.1 kv.1.2) (h2.trans (ah af kv.2)) rfl ⟨_,rfl,qe gv (aL hl) g⟩ (.inl rfl)⟩,λ K k=>
   (show a= .own p.1 from(p.2▸ga:GV (.ex _) a)).symm▸Ax m1 m2 (cK.i hx k)⟩⟩
noncomputable def OI(o:aB)(x:bI)(p:c9):Prop:=∀env,eval (.Attribute o x p) env=(do
   let v ← eval o env
   dp p.atName
   let r ← holding [v] (getAttr v x true)
   iy o v r
   pure r)
theorem OJ{o:aB}(h:vt 5 o=true)(x:bI)(p:c9):OI o x p:=λ env=>(show eval (.Attribute o x p) env=(do
   let v ← attributeBase o x env (eval o env)
   dp p.atName
   let r ← holding [v] (getAttr v x true)
   iy o v r
   pure r) from rfl).trans (ah (λ m:ie ak=>m>>=λ v=>(do
   dp p.atName
   let r ← holding [v] (getAttr v x true)
   iy o v r
   pure r)) (RT h x env _))
def DM(o:SE P ct)(x:Nat)(p:c9):SE P ct where
 bA:= .Attribute o.bA (nm x) p
 run:=λ σ K=>o.run σ λ a aI=>PC P a x aI.mem λ v=>K v aI
 ch:=vt 5 o.bA&&o.ch
 star:=λ aa aa=>rfl
 ok:=λ c F G ρ σ s Kv O R h=>X.Attribute (OJ (aF c).1 _ _ _) (X.mono (o.ok (aF c).2 F G ρ σ s _ O R h) λ v s₁ z=>z.u λ G' ρ' a b7 g x R' va k=>CM g x (wz O R' va k)) λ aa aa aa aa q=>wpAny_letTemporaryGo q
 ab:=Kh o.ab λ t s=>ob (W2 P t x s) λ u=>af [(u.1,s)]
 cO:=λ fo=>nJ fo λ t s outs a σ h ga gs=>ob.u h λ u aa h=>(u.2 a σ ga gs).elim λ v k=>D2.one h k.1 gs λ K z=>k.2 _ z
def M1(o:SE P ct)(x:Nat)(p':c9)(e:SE P ct)(p:c9):SX P ct where
 bA:= .Assign [.Attribute o.bA (nm x) p'] e.bA p
 run:=λ σ K=>e.run σ λ v aI=>o.run aI λ a aV=>Nb P a x v aV λ dC=>K .d8 dC
 ch:=vt 2 e.bA&&(e.ch&&o.ch)
 ok:=λ c F G ρ σ s Kv O R h=>X.tx (HI (aF c).1) (SE.then e o (aF (aF c).2).1 (aF (aF c).2).2 O R h λ G' ρ' a b u v b7 s' g x R' va vb k=>
  X.any (xb O R' vb va k λ Jp s'' Ba k=>PF.d8 g x Ba k))
 ab:=RS e.ab o.ab λ u t s=>ob (W5 P t x u s) λ s'=>af [(.d8,s'.1)]
 cO:=λ fo=>rQ fo λ u t s outs v a σ h gv ga gs=>ob.u h λ s' aa h=>(s'.2 a v σ ga gv gs).elim λ b7 k=>D2.one h rfl k.1 λ K z=>k.2 _ z
def MZ(o:SE P ct)(x:Nat)(p':c9)(op:cH)(e:SE P ct)(p:c9):SX P ct where
 bA:= .AugAssign (.Attribute o.bA (nm x) p') op e.bA p
 run:=λ σ K=>o.run σ λ ov aI=>PC P ov x aI.mem λ a=>e.run aI λ b aV=>zP op a b aV λ r dC=>Nb P ov x r dC λ qm=>K .d8 qm
 ch:=o.ch&&e.ch
 ok:=λ c F G ρ σ s Kv O R h=>X.qQ (X.mono (o.ok (aF c).1 F G ρ σ s _ O R h) λ ov s₁ z=>by
  exact z.u λ dW c8 a aI fK fh dS va bH=>X.mono (X.any (wz O dS va (Kv:=λ v σ=>e.run σ λ b aV=>zP op v b aV λ r dC=>Nb P a x r dC λ qm=>Kv .d8 qm) bH)) λ v bp z=>z.u λ jp g6 old aV jf ju gN vo cW=>
   X.mono (e.ok (aF c).2 F jp g6 aV bp _ O gN cW) λ u fW z=>z.u λ rP k9 b dC kJ kQ lD vb fH=>X.mono (X.any (r3 lD (vo.up kJ kQ) vb fH)) λ r s7 z=>z.u λ Th NX r' qm Cr DP pT vr nN=>
    X.any (xb O pT (va.up (jf.trans (kJ.trans Cr)) (ju.trans (kQ.trans DP))) vr nN λ Jp s'' Ba k=>PF.d8 (fK.trans (jf.trans (kJ.trans Cr))) (fh.trans (ju.trans (kQ.trans DP))) Ba k))
end
noncomputable abbrev nK(bs:ae bZ):Obj:=⟨.type "bytearray", .none, .bytearray bs.toArray 0,#[]⟩
theorem eV:Bq "bytearray" "__getitem__" "bytearray.__getitem__":=
 .of (owner:="bytearray") (n:="__getitem__") (by rw[bF,aZ]; kernel_rfl) (by decide+kernel) (by decide+kernel) (by decide+kernel)
  (by first|exact .inl (by decide+kernel)|exact .inr (by decide+kernel)) (by rw[cj]; kernel_rfl)
theorem n9:fA table "bytearray.__getitem__"=af b8.«bytearray.__getitem__»:=eM (by kernel_rfl)
theorem ph(a b:ak):hU "bytearray.__getitem__" ⟨[a,b],[]⟩:=by unfold hU; kernel_rfl
theorem jB:Bq "bytearray" "__setitem__" "bytearray.__setitem__":=
 .of (owner:="bytearray") (n:="__setitem__") (by rw[bF,aZ]; kernel_rfl) (by decide+kernel) (by decide+kernel) (by decide+kernel)
  (by first|exact .inl (by decide+kernel)|exact .inr (by decide+kernel)) (by rw[cj]; kernel_rfl)
theorem n_:fA table "bytearray.__setitem__"=af b8.«bytearray.__setitem__»:=eM (by kernel_rfl)
theorem pi(a b c:ak):hU "bytearray.__setitem__" ⟨[a,b,c],[]⟩:=by unfold hU; kernel_rfl
theorem qi:Bq "bytearray" "append" "bytearray.append":=
 .of (owner:="bytearray") (n:="append") (by rw[bF,aZ]; kernel_rfl) (by decide+kernel) (by decide+kernel) (by decide+kernel)
  (by first|exact .inl (by decide+kernel)|exact .inr (by decide+kernel)) (by rw[cj]; kernel_rfl)
theorem uX:fA table "bytearray.append"=af b8.«bytearray.append»:=eM (by kernel_rfl)
theorem v9(a b:ak):hU "bytearray.append" ⟨[a,b],[]⟩:=by unfold hU; kernel_rfl
theorem xu:rN (.builtin "bytearray.append")=pure (.type "method_descriptor"):=by show builtinType _=_; rw[uR]; kernel_rfl
theorem uF:Bq "bytearray" "pop" "bytearray.pop":=
 .of (owner:="bytearray") (n:="pop") (by rw[bF,aZ]; kernel_rfl) (by decide+kernel) (by decide+kernel) (by decide+kernel)
  (by first|exact .inl (by decide+kernel)|exact .inr (by decide+kernel)) (by rw[cj]; kernel_rfl)
theorem z0:fA table "bytearray.pop"=af b8.«bytearray.pop»:=eM (by kernel_rfl)
theorem BK(a:ak):hU "bytearray.pop" ⟨[a],[]⟩:=by unfold hU; kernel_rfl
theorem DI:rN (.builtin "bytearray.pop")=pure (.type "method_descriptor"):=by show builtinType _=_; rw[uR]; kernel_rfl
theorem yf:PlainAttrs "bytearray":=
 ⟨⟨"bytearray.__getattribute__",by rw[bF,aZ]; kernel_rfl,by decide+kernel⟩,by rw[bF,aZ]; kernel_rfl⟩
namespace X
theorem rT{J:aC}{prog:aK}{w:bw}{A:bn}{s:ar}{T:cS}{name:bI}{id:cS}{b:b8}{self:ak}{rest:ae ak}{Q:ak->ar->Prop}(h:Bq T name id)(hT:s.TypeIs self T)
  (hb:fA table id=af b) (ok:C8 (.builtin id ⟨self::rest,[]⟩)=true)
  (hc:cL J (aE prog w) A.in1 (b ⟨self::rest,[]⟩) (λ fin s'=>∃v,fin= .done (.ret v)/\Q v s') s) (ha:hU id ⟨self::rest,[]⟩):
  cL J (aE prog w) A (call (.builtin id) (self::rest) []) Q s:=by
 refine calls (tree ?_)
 show cL J _ A.in1 (do iw id ⟨self::rest,[]⟩; qM (.builtin id ⟨self::rest,[]⟩)) _ s
 refine cM (any (h.check _ _ _ _ _ _ _ _ hT ha (ret ⟨kV h.plain _,ok,tree ?_⟩)))
 rw[eB h.plain]
 show cL J _ A.in1 (match fA table id with|some b=>b ⟨self::rest,[]⟩|none=>A9 ((Eb id "#data").getD id)) _ s
 rw[hb]
 exact mono hc λ fin s' ⟨v,e,q⟩=>by rw[e]; exact q
end X
section
variable{prog:aK}{w:bw}{A:bn}{s:ar}{a:au}{bs:ae bZ}
theorem dd(h:s.heap.get? a=af (nK bs)):s.TypeIs (.ref a) "bytearray":=⟨_,h,rfl⟩
theorem jP{M:ir}{Q:bD bZ->ar->Prop}(h:s.heap.get? a=af (nK bs))(q:Q bs.toArray s):aH M A (Builtin.Bytes.payload (.ref a)) Q dw s:=by
 unfold Builtin.Bytes.payload Builtin.Bytes.payload?
 exact aj (aj (iR h (aw (aw q))))
theorem fits{k:Int}(h0:0<=k)(hf:k < 2 ^ 63):Builtin.Bytes.fitsIndex k=true:=by
 unfold Builtin.Bytes.fitsIndex
 rw[jg,cY,cY]
 omega
theorem rt{M:ir}{k:Int}{t:kq}{Q:aq Int->ar->Prop}(h0:0<=k)(hf:k < 2 ^ 63)(q:Q (af k) s):aH M A (Builtin.Bytes.subscript? (.int k t)) Q dw s:=by
 unfold Builtin.Bytes.subscript?
 refine aj (cX (T:="int") (mB s k t) Jz ?_)
 rw[bC (by simp)]
 refine aj (bu (a:=k) rfl ?_)
 dsimp only
 rw[fits h0 hf]
 exact aw q
theorem seqIndex_of{k:Int}{n:Nat}(h0:0<=k)(hk:k < n):j5 k n=af k.toNat:=by
 have h1:¬k < 0:=by omega
 unfold j5
 simp only[bC h1]
 rw[dq (by rw[jg,cY,cY]; exact⟨h0,hk⟩)]
theorem Kr{k:Int}{t:kq}{Q:ak->ar->Prop}(h:s.heap.get? a=af (nK bs))(h0:0<=k)(hf:k < 2 ^ 63)(hk:k < bs.length)
  (q:Q (.int (bs.getD k.toNat 0).toNat s.toks) {s with toks:=s.toks+1}):aH (aE prog w) A (getItem (.ref a) (.int k t)) Q dw s:=by
 unfold getItem
 try with_reducible refine bU ?_
 first|refine aj (aw ?_)|skip
 refine aj (lN (dd h) (by decide) ?_)
 refine aj (de (name:=bT "__getitem__") (dd h) eV
  (cA eV (dd h) n9 ?_ (ph _ _)))
 unfold b8.«bytearray.__getitem__»
 refine aj (bu (a:=(.ref a,[.int k t])) rfl ?_)
 dsimp only
 refine aj (rt h0 hf ?_)
 dsimp only
 refine aj (jP h ?_)
 have e:(j5 k bs.toArray.size).bind (λ x=>bs.toArray[x]?)=af (bs.getD k.toNat 0):=by
  have hl:k.toNat < bs.length:=by omega
  rw[cT,seqIndex_of h0 hk,lu,qq,gj,d9 hl]; rfl
 rw[e]
 exact aj (lx (aw ⟨_,rfl,aw q⟩))
theorem Gm{t:kq}{Q:ak->ar->Prop}(h:s.heap.get? a=af (nK bs))(hk:bs≠[])
  (q:Q (.int (bs.getLastD 0).toNat s.toks) {s with toks:=s.toks+1}):aH (aE prog w) A (getItem (.ref a) (.int (-1) t)) Q dw s:=by
 unfold getItem
 try with_reducible refine bU ?_
 first|refine aj (aw ?_)|skip
 refine aj (lN (dd h) (by decide) ?_)
 refine aj (de (name:=bT "__getitem__") (dd h) eV
  (cA eV (dd h) n9 ?_ (ph _ _)))
 unfold b8.«bytearray.__getitem__»
 refine aj (bu (a:=(.ref a,[.int (-1) t])) rfl ?_)
 dsimp only
 have sub:∀{Q:aq Int->ar->Prop},Q (af (-1)) s->aH (aE prog w) A.in1 (Builtin.Bytes.subscript? (.int (-1) t)) Q dw s:=λ q=>by
  unfold Builtin.Bytes.subscript?
  refine aj (cX (T:="int") (mB s (-1) t) Jz ?_)
  rw[bC (by simp)]
  refine aj (bu (a:=-1) rfl ?_)
  exact aw q
 refine aj (sub ?_)
 dsimp only
 refine aj (jP h ?_)
 have hl:0 < bs.length:=fS.mpr hk
 have e:(j5 (-1) bs.toArray.size).bind (λ x=>bs.toArray[x]?)=af (bs.getLastD 0):=by
  have:j5 (-1) bs.length=af (bs.length - 1):=by
   have h1:(-1:Int) < 0:=by decide
   unfold j5
   simp only[dq h1]
   rw[dq (by rw[jg,cY,cY]; omega)]
   congr 1; omega
  rw[cT,this,lu,qq,← nT,nU]
  cases q:bs.getLast? with
  |none=>exact bt (zx.mp q) hk
  |some b=>rfl
 rw[e]
 exact aj (lx (aw ⟨_,rfl,aw q⟩))
theorem ql{M:ir}{f:bD bZ->bD bZ}{cs:ae bZ}{Q:e9->ar->Prop}(h:s.heap.get? a=af (nK bs))(e:f bs.toArray=cs.toArray)(hz:cs.length<=gh)
  (q:∀h',h'.get? a=af (nK cs)->(∀b o,b≠a->s.heap.get? b=af o->h'.get? b=af o)->Q () {s with heap:=h'}):aH M A (Builtin.Bytes.write (.ref a) f) Q dw s:=by
 show aH M A (updateBytearray a f) Q dw s
 unfold updateBytearray
 refine aj (iR h ?_)
 dsimp only
 have em:Obj.mapBytearray f (nK bs)=nK cs:=by show(⟨_,_, .bytearray (f bs.toArray) 0,_⟩:Obj)=_; rw[e]
 have hh:=dK (Obj.mapBytearray f) h (by rw[em]; rfl)
 rw[em] at hh
 refine aj (wpAny_update h (wpAny_lookBehind hh ?_ (q _ hh λ b o n e=>(dF ..).extBut b o n e)))
 show(if cs.toArray.size > gh then af "bytearray:memory" else none)=none
 rw[bC (by rw[cT]; omega)]
theorem nL{M:ir}{k:Int}{t:kq}{Q:bZ->ar->Prop}(h0:0<=k)(hf:k < 256)(q:Q (eE k.toNat) s):aH M A (Builtin.Bytes.byteValue (.int k t)) Q dw s:=by
 unfold Builtin.Bytes.byteValue
 refine aj (bu (a:=k) rfl ?_)
 dsimp only
 rw[bC (by rw[Bool.or_eq_true,cY,cY]; omega)]
 exact aw q
theorem Kt{k v:Int}{t u:kq}{Q:e9->ar->Prop}(h:s.heap.get? a=af (nK bs))(h0:0<=k)(hf:k < 2 ^ 63)(hk:k < bs.length)(v0:0<=v)(v1:v < 256)(hz:bs.length<=gh)
  (q:∀h',h'.get? a=af (nK (bs.set k.toNat (eE v.toNat)))->(∀b o,b≠a->s.heap.get? b=af o->h'.get? b=af o)->Q () {s with heap:=h'}):
  aH (aE prog w) A (eT (.ref a) (.int k t) (.int v u)) Q dw s:=by
 unfold eT
 try with_reducible refine bU ?_
 first|refine aj (aw ?_)|skip
 refine aj (lN (dd h) (by decide) ?_)
 refine aj (de (name:=bT "__setitem__") (dd h) jB
  (cA jB (dd h) n_ ?_ (pi _ _ _)))
 unfold b8.«bytearray.__setitem__»
 show aH _ _ (Builtin.Bytes.subscript? (.int k t)>>=_) _ _ s
 refine aj (rt h0 hf ?_)
 dsimp only
 refine aj (nL v0 v1 ?_)
 refine aj (jP h ?_)
 rw[cT,seqIndex_of h0 hk]
 dsimp only
 refine aj (ql h (cs:=bs.set k.toNat (eE v.toNat)) (by simp) (by rw[iI]; exact hz) λ h' e1 e2=>?_)
 exact aj (aw (aw ⟨_,rfl,aw (q h' e1 e2)⟩))
end
section
variable{J:aC}{prog:aK}{w:bw}{A:bn}{s:ar}{a:au}{bs:ae bZ}
theorem wS{id x:cS}{args:Args}(ok:C8 (.builtin id args)=true)(h:rS.contains x=true):¬id=x:=λ e=>ay ((nb ok).symm.trans ((ah rS.contains e).trans h))
theorem Qo{id:cS}{args:Args}(ok:C8 (.builtin id args)=true):Builtin.Bytes.decodersThatHold.contains id=false:=(Bool.or_eq_false_iff.mp (List.contains_append.symm.trans (nb ok))).2
theorem Cb{v:ak}{id:cS}{pos:ae ak}{kw:ae (bI×ak)}{p:c9}(ok:C8 (.builtin id ⟨pos,kw⟩)=true):(Builtin.Bytes.exported.match_1 (motive:=λ aa=>aC) (DU id ⟨pos,kw⟩,p) (λ u aa aa aa=>Builtin.Bytes.sameRef u v) (λ u aa aa aa=>Builtin.Bytes.sameRef u v) (λ aa u aa aa aa=>Builtin.Bytes.sameRef u v) (λ u aa aa aa=>Builtin.Bytes.sameRef u v)
  (λ aa aa held aa aa=>held.any (Builtin.Bytes.sameRef v)) (λ id u aa aa aa=>Builtin.Bytes.sameRef u v&&Builtin.Bytes.decodersThatHold.contains id) λ aa=>false)=false:=by
 delta Builtin.Bytes.exported.match_1 Builtin.Bytes.exported._sparseCasesOn_1
 dsimp only
 rw[dif_neg (wS ok (by decide+kernel)),dif_neg (wS ok (by decide+kernel)),dif_neg (wS ok (by decide+kernel)),dif_neg (wS ok (by decide+kernel)),dif_neg (wS ok (by decide+kernel))]
 rcases pos with _|⟨u,r⟩
 ·rfl
 ·exact(ah (Builtin.Bytes.sameRef u v&&·) (Qo ok)).trans (m7 _)
theorem uo{M:ir}{v:ak}{Q:aC->ar->Prop}(q:Q false s):cL true M A (Builtin.Bytes.exported v) Q s:=λ Γ p N4 hc=>by
 unfold Builtin.Bytes.exported
 show Q _ s
 refine Eq.mp (ah (λ b=>Q b s) (List.any_eq_false.mpr ?_).symm) q
 intro x hx
 have ok:C8 x.1=true:=(bQ.mp hx).elim (λ e=>e▸(hc rfl).1) λ hx=>(hc rfl).2 x hx
 rcases x with⟨c,pp⟩
 rcases c
 case builtin id args=>rcases args; exact λ z=>ay ((Cb ok).symm.trans z)
 all_goals exact ay
end
section
variable{prog:aK}{w:bw}{A:bn}{s:ar}{a:au}{bs:ae bZ}
theorem zi{M:ir}{Q:e9->ar->Prop}(h:s.heap.get? a=af (nK bs))(q:Q () s):cL true M A (Builtin.Bytes.checkResize (.ref a)) Q s:=by
 unfold Builtin.Bytes.checkResize
 have e:cL true M A (Builtin.Bytes.exported (.ref a)<||>(do return (← Builtin.Bytes.exportsOf (.ref a)) > 0)) (λ b s'=>b=false/\s'=s) s:=by
  refine X.cM (uo ?_)
  refine X.any ?_
  show aH M A (Builtin.Bytes.exportsOf (.ref a)>>=λ n=>pure (decide (n > 0))) _ _ s
  unfold Builtin.Bytes.exportsOf
  exact aj (aj (iR h (aw (aw ⟨rfl,rfl⟩))))
 refine X.cM (X.mono e λ b s' z=>?_)
 obtain⟨rfl,rfl⟩:=z
 exact X.ret q
theorem Im{k:Int}{t:kq}{Q:ak->ar->Prop}(h:s.heap.get? a=af (nK bs))(h0:0<=k)(hf:k < 256)(hz:bs.length < gh)
  (q:∀h',h'.get? a=af (nK (bs++[eE k.toNat]))->(∀b o,b≠a->s.heap.get? b=af o->h'.get? b=af o)->Q .none {s with heap:=h'}):
  cL true (aE prog w) A (call (.builtin "bytearray.append") [.ref a, .int k t] []) Q s:=by
 refine X.rT qi (dd h) uX (show(!rS.contains "bytearray.append")=true from by decide+kernel) ?_ (v9 _ _)
 unfold b8.«bytearray.append»
 refine X.cM (X.XF (a:=(.ref a, .int k t)) rfl ?_)
 dsimp only
 refine X.cM (X.any (nL h0 hf ?_))
 refine X.cM (zi h ?_)
 refine X.cM (X.any (ql h (cs:=bs++[eE k.toNat]) (by simp) (by rw[bj]; show _+1<=_; omega) λ h' e1 e2=>?_))
 exact X.ret ⟨_,rfl,q h' e1 e2⟩
theorem Tv{Q:ak->ar->Prop}(h:s.heap.get? a=af (nK bs))(IM:bs≠[])(hz:bs.length<=gh)
  (q:∀h' i t,h'.get? a=af (nK bs.dropLast)->(∀b o,b≠a->s.heap.get? b=af o->h'.get? b=af o)->Q (.int i t) {s with heap:=h',toks:=s.toks+1}):
  cL true (aE prog w) A (call (.builtin "bytearray.pop") [.ref a] []) Q s:=by
 refine X.rT uF (dd h) z0 (show(!rS.contains "bytearray.pop")=true from by decide+kernel) ?_ (BK _)
 unfold b8.«bytearray.pop»
 refine X.cM (X.XF (a:=(.ref a,[])) rfl ?_)
 dsimp only
 refine X.cM (X.ret ?_)
 refine X.cM (X.any (jP h ?_))
 have hl:0 < bs.length:=fS.mpr IM
 rw[bC (by simp [IM])]
 have e:(j5 (-1) bs.toArray.size).bind (λ k=>bs.toArray[k]?.map (k,·))=af (bs.length - 1,bs.getLastD 0):=by
  have:j5 (-1) bs.length=af (bs.length - 1):=by
   have h1:(-1:Int) < 0:=by decide
   unfold j5
   simp only[dq h1]
   rw[dq (by rw[jg,cY,cY]; omega)]
   congr 1; omega
  rw[cT,this,lu,qq,← nT,nU]
  cases q:bs.getLast? with
  |none=>exact bt (zx.mp q) IM
  |some b=>rfl
 rw[e]
 dsimp only
 refine X.cM (zi h ?_)
 refine X.cM (X.any (ql h (cs:=bs.dropLast) (by simp [List.eraseIdx_length_sub_one]) (by rw[FU]; omega) λ h' e1 e2=>?_))
 exact X.cM (X.any (lx (X.ret ⟨_,rfl,q h' _ _ e1 e2⟩)))
end
namespace X
section
variable{J:aC}{prog:aK}{w:bw}{A:bn}{C:au}{R:iQ->ar->Prop}{h:Heap}{g:bD d7}{d:Drawn}{t:Nat}{os:OsState}
theorem call_builtin_at{s:ar}{id:cS}{args:Args}{b:b8}(hq:(DU id args).quiet=true)(ok:C8 (.builtin id args)=true)(hb:fA table id=af b)
  (hc:cL J (aE prog w) A.in1 (iw id args) (λ aa s₁=>cL J (aE prog w) (A.under (.builtin id args)) (b args)
   (λ fin s'=>match fin with | .done f=>R (.ok f) s' | .again c'=>c'.quiet=true/\C8 c'=true/\dP J (aE prog w) A c' R s') s₁) s):dP J (aE prog w) A (.call (.builtin id) args) R s:=by
 refine tree ?_
 show cL J _ A.in1 (do iw id args; qM (.builtin id args)) _ s
 refine cM (mono hc λ aa s₁ bH=>ret ⟨hq,ok,tree ?_⟩)
 show cL J _ _ (match fA table id with|some b=>b args|none=>A9 ((Eb id "#data").getD id)) _ _
 rw[hb]
 exact bH
theorem uB(args:Args):C8 (.builtin "type.__call__" args)=true:=by show(!rS.contains "type.__call__")=true; decide+kernel
theorem make{rest:ae ak}{init:ak}(Y:Makes (aE prog w) h C)(hi:Looks (aE prog w) h (hV (.ref C) "__init__") (af init))
  (hb:∀self,Looks (aE prog w) h (bindSpecial init self) (init,[self])) (IM:(af init !=af (Value.builtin "object.__init__"))=true)
  (hq:dP J (aE prog w) (A.under (.builtin "type.__call__" ⟨.ref C::rest,[]⟩)) (.call init ⟨.ref (h.objs.size+1)::rest,[]⟩)
   (λ r s'=>match r with | .ok (.ret v)=>v= .none/\R (.ok (.ret (.ref (h.objs.size+1)))) s'|_=>False) ⟨(h.push qL).push (gC C h.objs.size),g,d,t,os⟩):
  dP J (aE prog w) A (.call (.ref C) ⟨rest,[]⟩) R ⟨h,g,d,t,os⟩:=by
 have Y':=Y
 obtain⟨⟨oc,od,cd,sl,hC,e1,e2,e4⟩,made,base,self,top,call,typ⟩:=Y
 refine tree ?_
 show cL J _ _ (DY (.ref C) _) _ _
 refine cM (any (iR hC ?_))
 show cL J _ _ (F0 (.ref C) _) _ _
 unfold F0
 refine cM (any (call.at ?_))
 dsimp only
 rw[tc_bind]
 refine cM (ret (cM (ret ?_)))
 refine ret (a:=Fin.again (.call (.builtin "type.__call__") ⟨.ref C::rest,[]⟩)) ⟨rfl,rfl,?_⟩
 refine call_builtin_at (Jw _ (by decide+kernel)) (uB _) entry_typeCall (any (check_slot tc_kind tc_split typ (tc_args _ _ _) ?_))
 unfold b8.«type.__call__»
 have hm:Looks (aE prog w) h (mroOf (.ref C)) cd.mro:=((Looks.ld (part:=none) hC).andThen .now).andThen .now
 dsimp only
 rw[bC (show ¬((du C==cR "type")=true) from aW)]
 refine cM (any (hm.here ?_))
 rw[e4,bC aW]
 refine cM (any (made.here ?_))
 dsimp only
 refine cM (ret (cM (holds (any (vQ (new_K Y' hi (.inl IM) ?_))))))
 dsimp only
 have k:∀b o,h.get? b=af o->((h.push qL).push (gC C h.objs.size)).get? b=af o:=λ b o e=>aA _ (aA _ e)
 have hx:((h.push qL).push (gC C h.objs.size)).get? (h.objs.size+1)=af (gC C h.objs.size):=by heap_get
 have t1:Looks (aE prog w) ((h.push qL).push (gC C h.objs.size)) (rN (.ref (h.objs.size+1))) (.ref C):=(Looks.ld hx).andThen .now
 have s1:=self.keeps k
 have i1:=hi.keeps k
 have b1:=(hb (.ref (h.objs.size+1))).keeps k
 refine cM (any ?_)
 unfold rI
 refine aj (t1.here ?_)
 refine s1.here ?_
 rw[iK,bC aW]
 refine cM (holds ?_)
 unfold callSpecial? t8
 refine cM (cM (any (t1.here (any (i1.here ?_)))))
 dsimp only
 refine holds (cM (any (b1.here ?_)))
 dsimp only
 refine cM (calls (el hq λ r s' z=>?_))
 rcases r with e|(v|_|_|_)<;>first|exact z.elim|skip
 obtain⟨rfl,z⟩:=z
 exact ret (ret z)
end
end X
theorem Mk:mroOf (.type "bytearray")=pure [.type "bytearray", .type "object"]:=by rw[mroOf_type]; kernel_rfl
theorem ye:hV (.type "bytearray") "__new__"=pure (af (.builtin "bytearray.__new__")):=by rw[bF,aZ]; kernel_rfl
theorem AJ:Bq "bytearray" "__init__" "bytearray.__init__":=
 .of (owner:="bytearray") (n:="__init__") (by rw[bF,aZ]; kernel_rfl) (by decide+kernel) (by decide+kernel) (by decide+kernel)
  (by first|exact .inl (by decide+kernel)|exact .inr (by decide+kernel)) (by rw[cj]; kernel_rfl)
theorem yH:TypeCalled "bytearray" "bytearray.__new__" "bytearray.__init__":=
 ⟨by decide+kernel,by decide+kernel,⟨_,_,Mk⟩,madeBy_type Mk ye (by decide+kernel),by decide+kernel,by rw[cj]; kernel_rfl,AJ⟩
theorem DH:checkTypeCall "bytearray" ⟨[],[]⟩=pure ():=by kernel_rfl
theorem Fe:iw "bytearray.__new__" ⟨[.type "bytearray"],[]⟩=pure ():=by kernel_rfl
theorem zZ:fA table "bytearray.__new__"=af b8.«list.__new__»:=
 D9 (id':="list.__new__") (by rw[fastTable_eq_tree]; kernel_rfl) (by decide+kernel) (by decide+kernel) (by rw[fastTable_eq_tree]; kernel_rfl)
theorem sS:plainId "bytearray.__new__"=true:=by decide+kernel
theorem ya:fA table "bytearray.__init__"=af b8.«bytearray.__init__»:=eM (by kernel_rfl)
theorem zJ(a:ak):hU "bytearray.__init__" ⟨[a],[]⟩:=by unfold hU; kernel_rfl
theorem Fj(args:Args):C8 (.builtin "bytearray.__init__" args)=true:=by show(!rS.contains "bytearray.__init__")=true; decide+kernel
set_option maxRecDepth 1000000 in
set_option maxHeartbeats 4000000 in
theorem AB:("bytearray.__new__".splitOn ".__new__").headD ""="bytearray":=by simp+decide [String.splitOn,String.splitOnAux]
theorem DC:isSubtype (.type "bytearray") (.type "bytearray")=pure true:=by rw[cj]; kernel_rfl
theorem wb:hV (.type "bytearray") "__release_buffer__"=pure (af (.builtin "bytearray.__release_buffer__")):=by rw[bF,aZ]; kernel_rfl
section
variable{prog:aK}{w:bw}{A:bn}{s:ar}
theorem B0{Q₁:ak->ar->Prop}
  (h:Q₁ (.ref s.heap.objs.size) {s with heap:=s.heap.push {cls:= .type "bytearray",data:= .bytearray #[]}}):
  codeAny (aE prog w) A (.call (.builtin "bytearray.__new__") ⟨[.type "bytearray"],[]⟩) (wants Q₁ dw) s:=by
 refine Bs ?_
 show aH _ A.in1 (do iw "bytearray.__new__" ⟨[.type "bytearray"],[]⟩; qM (.builtin "bytearray.__new__" ⟨[.type "bytearray"],[]⟩)) _ _ s
 refine aj (bu Fe (aw ⟨kV sS _,codeAny_builtin_stack zZ rfl λ p st=>?_⟩))
 rw[eB sS _]
 have Ae:=DC
 have ab5:=AB
 obtain⟨hp,g,d,tk,os⟩:=s
 dsimp only
 rw[ab5]
 wp_walk
 exact h
theorem OL{M:ir}{A:bn}{a:au}{Q:PySem.Fin->ar->Prop}(h:s.heap.get? a=af (nK []))
  (q:∀h',h'.get? a=af (nK [])->(∀b o,b≠a->s.heap.get? b=af o->h'.get? b=af o)->Q (.done (.ret .none)) {s with heap:=h'}):
  cL true M A (b8.«bytearray.__init__» ⟨[.ref a],[]⟩) Q s:=by
 have e0:Looks M s.heap (Builtin.Bytes.ownRelease (.ref a)) false:=by
  have t0:Looks M s.heap (rN (.ref a)) (.type "bytearray"):=(Looks.ld h).andThen .now
  unfold Builtin.Bytes.ownRelease Builtin.Bytes.slotIsOwn t8 rI
  refine Looks.andThen (show Looks M s.heap _ true from ?_) .now
  refine Looks.andThen (t0.andThen (Looks.of_pure wb)) ?_
  dsimp only
  rw[bC (by decide+kernel)]
  refine t0.andThen (Looks.of_pure ?_)
  rw[cj]; kernel_rfl
 have bind:Builtin.Bytes.bindOptional "bytearray.__init__" "bytearray" ["source","encoding","errors"] [] []=pure [none,none,none]:=by kernel_rfl
 have e:cL true M A (Builtin.Bytes.exported (.ref a)<||>(do return (← Builtin.Bytes.exportsOf (.ref a)) > 0)) (λ b s'=>b=false/\s'=s) s:=by
  refine X.cM (uo ?_)
  refine X.any ?_
  show aH M A (Builtin.Bytes.exportsOf (.ref a)>>=λ n=>pure (decide (n > 0))) _ _ s
  unfold Builtin.Bytes.exportsOf
  exact aj (aj (iR h (aw (aw ⟨rfl,rfl⟩))))
 unfold b8.«bytearray.__init__»
 dsimp only
 refine X.cM (X.any (e0.here ?_))
 rw[bC aW,bind]
 refine X.cM (X.ret ?_)
 refine X.cM (X.any (aw ?_))
 refine X.cM (X.any (aw ?_))
 refine X.cM (X.mono e λ b s' z=>?_)
 obtain⟨rfl,rfl⟩:=z
 rw[bC aW]
 refine X.cM (X.any (ql h (cs:=[]) rfl (oA _) λ h' e1 e2=>?_))
 exact X.cM (X.any (aw (X.ret (q h' e1 e2))))
namespace X
theorem KA{J:aC}{R:iQ->ar->Prop}{id:cS}{args:Args}{b:b8}(hb:fA table id=af b)
  (h:cL J (aE prog w) (A.under (.builtin id args)) (b args) (λ fin s'=>match fin with | .done f=>R (.ok f) s' | .again c'=>c'.quiet=true/\C8 c'=true/\dP J (aE prog w) A c' R s') s):
  dP J (aE prog w) A (.builtin id args) R s:=by
 refine tree ?_
 show cL J _ _ (match fA table id with|some b=>b args|none=>A9 ((Eb id "#data").getD id)) _ _
 rw[hb]; exact h
theorem wY(args:Args):(DU "type.__call__" args).quiet=true:=Jw _ (by decide+kernel)
theorem yG{J:aC}{T newId EV:cS}{args:ae ak}{Q Q₁:ak->ar->Prop}(ft:TypeCalled T newId EV)
  (hct:checkTypeCall T ⟨args,[]⟩=pure ())
  (uY:∀A',codeAny (aE prog w) A' (.call (.builtin newId) ⟨.type T::args,[]⟩) (wants Q₁ dw) s)
  (Yd:∀obj s₁,Q₁ obj s₁->s₁.TypeIs obj T/\cL J (aE prog w) A.in1 (call (.builtin EV) (obj::args) []) (λ v s'=>v= .none/\Q obj s') s₁):
  cL J (aE prog w) A (call (.type T) args []) Q s:=by
 obtain⟨c,tl,abY⟩:=ft.mro
 have Yc:=ft.made
 have Ae:=ft.sub
 have h1:=ft.notType
 have h2:=ft.canCreate
 refine calls (tree ?_)
 show cL J _ _ (DY (.type T) _) _ _
 refine ret (a:=Fin.again (.builtin "type.__call__" ⟨.type T::args,[]⟩)) ⟨wY _,uB _,KA F.entry_type_call ?_⟩
 rw[Around.under_plain (weight_type_call_type T args []) rfl]
 unfold b8.«type.__call__»
 dsimp only
 rw[bC (by rw[h1]; exact aW)]
 rw[bC (by rw[h2]; exact aW),hct]
 refine cM (ret ?_)
 rw[abY]
 refine cM (ret ?_)
 rw[bC (by simp),Yc]
 refine cM (ret (cM (ret (cM (holds (any (vQ (codeAny_mono (uY _) λ r s₁ z=>?_))))))))
 rcases r with e|(obj|_|_|_)<;>first|exact z.elim|skip
 rename_i obj
 obtain⟨hT,hn⟩:=Yd obj s₁ z
 refine cM (any (eO hT Ae ?_))
 rw[iK,bC aW]
 refine cM (holds ?_)
 unfold callSpecial?
 refine cM (any (cX hT ft.init.lookup ?_))
 dsimp only
 refine holds ?_
 rw[ft.init.bind]
 refine cM (ret (cM ?_))
 show cL J _ _ (call (.builtin EV) (obj::args) []) _ _
 refine mono hn λ v s' z=>?_
 obtain⟨e,q⟩:=z
 subst e
 exact ret (ret q)
theorem Ev{Q:ak->ar->Prop}(q:∀h',h'.get? s.heap.objs.size=af (nK [])->(∀b o,s.heap.get? b=af o->h'.get? b=af o)->Q (.ref s.heap.objs.size) {s with heap:=h'}):
  cL true (aE prog w) A (call (.type "bytearray") [] []) Q s:=by
 refine yG (Q₁:=λ v s'=>v= .ref s.heap.objs.size/\s'={s with heap:=s.heap.push (nK [])}) yH DH (λ A'=>B0 ⟨rfl,rfl⟩) λ obj s₁ z=>?_
 obtain⟨rfl,rfl⟩:=z
 have hh:(s.heap.push (nK [])).get? s.heap.objs.size=af (nK []):=aN _ rfl
 refine⟨⟨_,hh,rfl⟩,rT yH.init ⟨_,hh,rfl⟩ ya (Fj _) (OL hh λ h' e1 e2=>?_) (zJ _)⟩
 refine⟨.none,rfl,rfl,q h' e1 λ b o e=>e2 b o ?_ (aA _ e)⟩
 exact dO (b9 e)
end X
end
theorem BO:hV (.type "bytearray") "__bytes__"=pure none:=by rw[bF,aZ]; kernel_rfl
theorem BP:hV (.type "bytearray") "__index__"=pure none:=by rw[bF,aZ]; kernel_rfl
theorem tE:hV (.type "bytearray") "__buffer__"=pure (af (.builtin "bytearray.__buffer__")):=by rw[bF,aZ]; kernel_rfl
section
variable{prog:aK}{w:bw}{A:bn}{s:ar}{a:au}{bs:ae bZ}
theorem x4{M:ir}(h:s.heap.get? a=af (nK bs)):Looks M s.heap (Builtin.Bytes.ownRelease (.ref a)) false:=by
 have t0:Looks M s.heap (rN (.ref a)) (.type "bytearray"):=(Looks.ld h).andThen .now
 unfold Builtin.Bytes.ownRelease Builtin.Bytes.slotIsOwn t8 rI
 refine Looks.andThen (show Looks M s.heap _ true from ?_) .now
 refine Looks.andThen (t0.andThen (Looks.of_pure wb)) ?_
 dsimp only
 rw[bC (by decide+kernel)]
 refine t0.andThen (Looks.of_pure ?_)
 rw[cj]; kernel_rfl
theorem x3{M:ir}(h:s.heap.get? a=af (nK bs)):Looks M s.heap (Builtin.Bytes.slotIsOwn (.ref a) "__buffer__") true:=by
 have t0:Looks M s.heap (rN (.ref a)) (.type "bytearray"):=(Looks.ld h).andThen .now
 unfold Builtin.Bytes.slotIsOwn t8 rI
 refine Looks.andThen (t0.andThen (Looks.of_pure tE)) ?_
 dsimp only
 rw[bC (by decide+kernel)]
 refine t0.andThen (Looks.of_pure ?_)
 rw[cj]; kernel_rfl
theorem yE{M:ir}{id:cS}{full:aC}{Q:aq (bD bZ)->ar->Prop}(h:s.heap.get? a=af (nK bs))(q:Q (af bs.toArray) s):aH M A (Builtin.Bytes.buffer? id (.ref a) full) Q dw s:=by
 unfold Builtin.Bytes.buffer?
 refine aj (cX (dd h) tE ?_)
 dsimp only
 refine aj ((x3 h).here ?_)
 rw[iK,bC aW]
 refine aj (cX (dd h) tE ?_)
 refine aj ((x4 h).here ?_)
 rw[bC aW]
 exact aj (jP h (aw q))
theorem It{Q:ak->ar->Prop}(h:s.heap.get? a=af (nK bs))(hz:bs.length<=gh)
  (q:Q (.bytes bs.toArray s.toks) {s with toks:=s.toks+1}):
  codeAny (aE prog w) A (.call (.builtin "bytes.__new__") ⟨[.type "bytes", .ref a],[]⟩) (wants Q dw) s:=by
 refine Bs ?_
 show aH _ A.in1 (do iw "bytes.__new__" ⟨[.type "bytes", .ref a],[]⟩; qM (.builtin "bytes.__new__" ⟨[.type "bytes", .ref a],[]⟩)) _ _ s
 refine aj (bu (F.bm_newCall _) (aw ⟨kV F.bm_plain _,k5 F.bm_entry ?_⟩))
 rw[eB F.bm_plain _]
 have hT:=dd h
 unfold b8.«bytes.__new__»
 refine aj (bu (a:=true) rfl ?_)
 refine A6 rfl ?_
 refine aj (bu F.bm_sub ?_)
 refine A6 rfl ?_
 refine aj (bu (F.bm_bind _) ?_)
 refine aj (bu (a:=()) rfl ?_)
 refine aj (bu (a:=()) rfl ?_)
 refine A6 rfl ?_
 refine aj (cX hT BO ?_)
 refine aj (aj ?_)
 show aH _ _ (load a>>=_) _ _ _
 refine aj (iR h ?_)
 refine aw (aw ?_)
 refine A6 rfl ?_
 refine aj (cX hT BP ?_)
 refine bm_if_true rfl ?_
 first
  |show aH _ _ (Builtin.Bytes.buffer? "bytes.__new__" (.ref a) true>>=_) _ _ _
  |(refine aj ?_; show aH _ _ (Builtin.Bytes.buffer? "bytes.__new__" (.ref a) true>>=_) _ _ _)
 refine aj (yE h ?_)
 dsimp only
 refine aj (mC (aj (wpAny_mkBytes ?_ (by rw[cT]; exact hz))))
 show aH _ _ (if (cR "bytes"==cR "bytes")=true then _ else _) _ _ _
 refine bm_if_true (by decide) ?_
 first
   |exact aw q
   |exact aw (aw q)
   |exact aj (aw (aw q))
theorem x7{Q:ak->ar->Prop}(h:s.heap.get? a=af (nK bs))(hz:bs.length<=gh)
  (q:Q (.bytes bs.toArray s.toks) {s with toks:=s.toks+1}):aH (aE prog w) A (call (.type "bytes") [.ref a]) Q dw s:=by
 refine D7 (Q₁:=λ obj s₁=>s₁.TypeIs obj "bytes"/\Q obj s₁) F.bm_called (F.bm_typeCall _) F.entry_object_init
  (It h hz ⟨gF _ _ _,q⟩) λ obj s₁ bH=>?_
 exact⟨bH.1,F.args_object_init_2 obj _,object_init_meets F.bm_called.init.lookup F.bm_called.made (by decide) prog w A.in1 _ s₁ ⟨bH.1,rfl,bH.2⟩⟩
end
theorem rq:Bq "bytes" "count" "bytes.count":=
 .of (owner:="bytes") (n:="count") (by rw[bF,aZ]; kernel_rfl) (by decide+kernel) (by decide+kernel) (by decide+kernel)
  (by first|exact .inl (by decide+kernel)|exact .inr (by decide+kernel)) (by rw[cj]; kernel_rfl)
theorem wm:fA table "bytes.count"=af b8.«bytes.count»:=eM (by kernel_rfl)
theorem xY(a b:ak):hU "bytes.count" ⟨[a,b],[]⟩:=by unfold hU; kernel_rfl
theorem yk:rN (.builtin "bytes.count")=pure (.type "method_descriptor"):=by show builtinType _=_; rw[uR]; kernel_rfl
theorem yg:PlainAttrs "bytes":=
 ⟨⟨"bytes.__getattribute__",by rw[bF,aZ]; kernel_rfl,by decide+kernel⟩,by rw[bF,aZ]; kernel_rfl⟩
theorem Dy:Bq "bytes" "__len__" "bytes.__len__":=
 .of (owner:="bytes") (n:="__len__") (by rw[bF,aZ]; kernel_rfl) (by decide+kernel) (by decide+kernel) (by decide+kernel)
  (by first|exact .inl (by decide+kernel)|exact .inr (by decide+kernel)) (by rw[cj]; kernel_rfl)
theorem z4:fA table "bytes.__len__"=af b8.«bytes.__len__»:=eM (by kernel_rfl)
theorem BL(a:ak):hU "bytes.__len__" ⟨[a],[]⟩:=by unfold hU; kernel_rfl
theorem uE:Bq "bytearray" "__len__" "bytearray.__len__":=
 .of (owner:="bytearray") (n:="__len__") (by rw[bF,aZ]; kernel_rfl) (by decide+kernel) (by decide+kernel) (by decide+kernel)
  (by first|exact .inl (by decide+kernel)|exact .inr (by decide+kernel)) (by rw[cj]; kernel_rfl)
theorem zY:fA table "bytearray.__len__"=af b8.«bytearray.__len__»:=eM (by kernel_rfl)
theorem BJ(a:ak):hU "bytearray.__len__" ⟨[a],[]⟩:=by unfold hU; kernel_rfl
theorem xg:Bq "bytearray" "__ne__" "bytearray.__ne__":=
 .of (owner:="bytearray") (n:="__ne__") (by rw[bF,aZ]; kernel_rfl) (by decide+kernel) (by decide+kernel) (by decide+kernel)
  (by first|exact .inl (by decide+kernel)|exact .inr (by decide+kernel)) (by rw[cj]; kernel_rfl)
theorem B_:fA table "bytearray.__ne__"=af b8.«bytearray.__ne__»:=eM (by kernel_rfl)
theorem Ej(a b:ak):hU "bytearray.__ne__" ⟨[a,b],[]⟩:=by unfold hU; kernel_rfl
theorem rc:hV (.type "int") "__buffer__"=pure none:=by rw[bF,aZ]; kernel_rfl
theorem tF:hV (.type "bytes") "__buffer__"=pure (af (.builtin "bytes.__buffer__")):=by rw[bF,aZ]; kernel_rfl
theorem Eu:hV (.type "bytes") "__release_buffer__"=pure none:=by rw[bF,aZ]; kernel_rfl
noncomputable def cnt(b:bD bZ)(i:Int):Int:=
 if (Builtin.Bytes.window b.size none none).2 - (Builtin.Bytes.window b.size none none).1 < (#[i.toNat.toUInt8]:bD bZ).size then 0
 else (Builtin.Bytes.occurrences b #[i.toNat.toUInt8] (Builtin.Bytes.window b.size none none).1.toNat (Builtin.Bytes.window b.size none none).2.toNat).length
section
variable{prog:aK}{w:bw}{A:bn}{s:ar}{a:au}{bs:ae bZ}
theorem Et{M:ir}{A:bn}{id:cS}{i:Int}{u:kq}{full:aC}{Q:aq (bD bZ)->ar->Prop}(q:Q none s):aH M A (Builtin.Bytes.buffer? id (.int i u) full) Q dw s:=by
 unfold Builtin.Bytes.buffer?
 refine aj (cX (T:="int") (mB s i u) rc ?_)
 refine aj (cX (T:="int") (mB s i u) rc ?_)
 exact aw q
theorem AD{M:ir}{A:bn}{b:bD bZ}{t u:kq}{i:Int}{Q:bD bZ×bD bZ×aq (Nat×Nat)->ar->Prop}(h0:0<=i)(h1:i < 256)
  (q:Q (b,#[i.toNat.toUInt8],if (Builtin.Bytes.window b.size none none).2 - (Builtin.Bytes.window b.size none none).1 < (#[i.toNat.toUInt8]:bD bZ).size then none else af ((Builtin.Bytes.window b.size none none).1.toNat,(Builtin.Bytes.window b.size none none).2.toNat)) s):
  aH M A (Builtin.Bytes.searchArgs .bytes "count" ⟨[.bytes b t, .int i u],[]⟩) Q dw s:=by
 unfold Builtin.Bytes.searchArgs
 refine aj (bu (a:=(.bytes b t,[.int i u])) rfl ?_)
 dsimp only
 refine aj (bu (a:=none) rfl ?_)
 refine aj (bu (a:=none) rfl ?_)
 refine aj (Et ?_)
 dsimp only[List.headD_cons]
 refine aj (cX (T:="int") (mB s i u) Jz ?_)
 rw[bC (by simp)]
 refine aj (bu (a:=i) rfl ?_)
 rw[bC (by rw[Bool.or_eq_true,cY,cY]; omega)]
 refine aj (aw (aj (bu (a:=b) rfl ?_)))
 exact aw q
theorem BV{b:bD bZ}{t u:kq}{i:Int}{Q:ak->ar->Prop}(h0:0<=i)(h1:i < 256)(q:Q (.int (cnt b i) s.toks) {s with toks:=s.toks+1}):
  aH (aE prog w) A (call (.builtin "bytes.count") [.bytes b t, .int i u]) Q dw s:=by
 have hT:s.TypeIs (.bytes b t) "bytes":=gF _ _ _
 refine cA rq hT wm ?_ (xY _ _)
 unfold b8.«bytes.count» Builtin.Bytes.countM
 refine aj (AD h0 h1 ?_)
 unfold cnt at q
 dsimp only
 split
 ·rename_i hh
  split at hh
  ·rename_i h2
   rw[dq h2] at q
   exact aj (lx (aw ⟨_,rfl,q⟩))
  ·cases hh
 ·rename_i lo hi hh
  split at hh
  ·cases hh
  ·rename_i h2
   cases hh
   rw[bC h2] at q
   rw[bC (by simp)]
   exact aj (lx (aw ⟨_,rfl,q⟩))
theorem U0{b:bD bZ}{t:kq}{Q:ak->ar->Prop}(hf:b.size < 2 ^ 62)(q:Q (.int b.size (s.toks+1)) {s with toks:=s.toks+1+1}):
  aH (aE prog w) A (call (.builtin "len") [.bytes b t]) Q dw s:=by
 refine call_len_gives (n:=b.size) (gF _ _ _) Dy z4 (BL _) (Gives.of_wp λ M A E s Q h=>?_) (by omega) (by omega) q
 unfold b8.«bytes.__len__»
 refine aj (bu (a:=(.bytes b t,[])) rfl ?_)
 refine aj (bu (a:=b) rfl ?_)
 exact aj (lx (aw ⟨_,rfl,h⟩))
theorem UZ{Q:ak->ar->Prop}(h:s.heap.get? a=af (nK bs))(hf:bs.length < 2 ^ 62)(q:Q (.int bs.length (s.toks+1)) {s with toks:=s.toks+1+1}):
  aH (aE prog w) A (call (.builtin "len") [.ref a]) Q dw s:=by
 refine ny kind_len plain_len entry_len (args_len1 _) ?_
 unfold b8.«len»
 refine aj (m:=oneArg "len" _) (aw ?_)
 refine aj (m:=callSpecial? (.ref a) (bT "__len__")) (de (name:=bT "__len__") (dd h) uE
  (cA uE (dd h) zY ?_ (BJ _)))
 unfold b8.«bytearray.__len__»
 refine aj (bu (a:=(.ref a,[])) rfl ?_)
 refine aj (jP h ?_)
 refine aj (lx (aw ⟨_,rfl,?_⟩))
 rw[cT]
 refine aj (bU (aw ?_))
 refine aj (wpAny_letGo ?_)
 show aH _ _ (if (bs.length:Int) < 0 then _ else _) _ _ _
 rw[bC (by omega)]
 show aH _ _ (if (bs.length:Int)>=2 ^ 63 then _ else _) _ _ _
 rw[bC (by omega)]
 exact aj (lx (aw ⟨_,rfl,q⟩))
theorem order_eq:∀x y:ae bZ,(Builtin.Bytes.order x y != .eq)=(x !=y)
 |[],[]=>rfl
 |[],_::_=>rfl
 |_::_,[]=>rfl
 |x::xs,y::ys=>by
  have ih:=order_eq xs ys
  unfold Builtin.Bytes.order
  by_cases h1:x < y
  ·rw[dq h1]
   have:x≠y:=λ e=>by subst e; exact bt h1 (by simp)
   simp [bne,this]
  ·rw[bC h1]
   by_cases h2:x > y
   ·rw[dq h2]
    have:x≠y:=λ e=>by subst e; exact bt h2 (by simp)
    simp [bne,this]
   ·rw[bC h2,ih]
    have:x=y:=UInt8.le_antisymm (by simpa using h2) (by simpa using h1)
    subst this
    simp [bne]
theorem x5{M:ir}{b:bD bZ}{t:kq}:Looks M s.heap (Builtin.Bytes.slotIsOwn (.bytes b t) "__buffer__") true:=by
 have t0:Looks M s.heap (rN (.bytes b t)) (.type "bytes"):=Looks.of_pure rfl
 unfold Builtin.Bytes.slotIsOwn t8 rI
 refine Looks.andThen (t0.andThen (Looks.of_pure tF)) ?_
 dsimp only
 rw[bC (by decide+kernel)]
 refine t0.andThen (Looks.of_pure ?_)
 rw[cj]; kernel_rfl
theorem x6{M:ir}{b:bD bZ}{t:kq}:Looks M s.heap (Builtin.Bytes.ownRelease (.bytes b t)) false:=by
 have t0:Looks M s.heap (rN (.bytes b t)) (.type "bytes"):=Looks.of_pure rfl
 unfold Builtin.Bytes.ownRelease Builtin.Bytes.slotIsOwn t8 rI
 refine Looks.andThen (show Looks M s.heap _ true from ?_) .now
 refine Looks.andThen (t0.andThen (Looks.of_pure Eu)) ?_
 exact .now
theorem Ir{M:ir}{A:bn}{id:cS}{full:aC}{b:bD bZ}{t:kq}{Q:aq (bD bZ)->ar->Prop}(q:Q (af b) s):aH M A (Builtin.Bytes.buffer? id (.bytes b t) full) Q dw s:=by
 have hT:s.TypeIs (.bytes b t) "bytes":=gF _ _ _
 unfold Builtin.Bytes.buffer?
 refine aj (cX hT tF ?_)
 dsimp only
 refine aj (x5.here ?_)
 rw[iK,bC aW]
 refine aj (cX hT tF ?_)
 refine aj (x6.here ?_)
 rw[bC aW]
 exact aj (bu (a:=b) rfl (aw q))
theorem Xd{cs:ae bZ}{t:kq}{Q:ak->ar->Prop}(h:s.heap.get? a=af (nK bs))(hu:A.units < qN)(q:Q (.bool (bs !=cs)) s):
  aH (aE prog w) A (dz .NotEq (.ref a) (.bytes cs.toArray t)) Q dw s:=by
 show aH _ _ (richCompare .NotEq (.ref a) (.bytes cs.toArray t)) _ _ _
 have ha:=dd h
 have hb:s.TypeIs (.bytes cs.toArray t) "bytes":=gF _ _ _
 have Ae:isSubtype (.type "bytes") (.type "bytearray")=pure false:=by rw[cj]; kernel_rfl
 have IM:(cR "bytearray" !=cR "bytes")=true:=by decide
 rcases hi:cmpInfo .NotEq with⟨sym,f,r⟩
 have hf:f=bT "__ne__":=by cases hi; rfl
 subst hf
 unfold richCompare
 rw[hi]
 dsimp only
 rw[ha.oneThing_none]
 dsimp only
 refine bU ?_
 refine aj (wpAny_cRoomFor hu ?_)
 refine aj (j6 ha (aj (j6 hb ?_)))
 rw[IM,dq rfl]
 refine aj (bu Ae ?_)
 rw[bC aW]
 refine aj (wpAny_tryCompare_slot ha xg (cA xg ha B_ ?_ (Ej _ _)))
 unfold b8.«bytearray.__ne__»
 show aH _ _ (slotArgs "__ne__" 1 ⟨[.ref a, .bytes cs.toArray t],[]⟩>>=_) _ _ _
 refine aj (bu (a:=(.ref a,[.bytes cs.toArray t])) rfl ?_)
 dsimp only
 refine aj (yE h ?_)
 dsimp only
 unfold Builtin.Bytes.bufferQuiet?
 refine aj (aj (kW (c7 (Ir ?_) (λ aa aa z=>z) λ aa aa z=>z.elim)))
 refine aw ?_
 have e:Builtin.Bytes.holds "__ne__" (Builtin.Bytes.order bs cs)=(bs !=cs):=by rw[← order_eq]; rfl
 refine aw ⟨_,rfl,λ z=>(nomatch z),aw ?_⟩
 show Q (.bool (Builtin.Bytes.holds "__ne__" (Builtin.Bytes.order bs cs))) s
 rw[e]; exact q
end
noncomputable def sn:ae Int->ae Int->aC
 |[],[]=>true
 |a::r,b::t=>aX (decide (a=b)) (sn r t) false
 |_,_=>false
theorem GE:∀{a b:ae Int},sn a b=true->a=b
 |[],[]=>λ aa=>rfl
 |[],_::_=>λ h=>ay h
 |_::_,[]=>λ h=>ay h
 |a::r,b::t=>λ h=>by
  by_cases q:a=b
  ·exact c2 q (GE ((ah (aX · (sn r t) false) (cz q)).symm.trans h))
  ·exact ay ((ah (aX · (sn r t) false) (dj q)).symm.trans h)
theorem Ca:∀{a:ae Int},sn a a=true
 |[]=>rfl
 |a::r=>(ah (aX · (sn r r) false) (cz rfl)).trans Ca
theorem K1{a b:ae Int}(h:sn a b=false):a≠b:=λ e=>by rw[e,Ca] at h; cases h
theorem Ph(a b:ae Int):sn a b=decide (a=b):=by
 cases h:sn a b with
 |true=>exact(cz (GE h)).symm
 |false=>exact(dj (K1 h)).symm
noncomputable def KZ(a b:Int):aC:=decide (a=b)
abbrev lkI:ae Int->ae AV->Int->aq AV:=E7 KZ
abbrev qd:ae Int->Int->ae Int:=nh KZ
abbrev Di:ae Int->ae AV->Int->AV->ae AV:=jX KZ
abbrev wJ:ae (ae Int)->ae AV->ae Int->aq AV:=E7 sn
abbrev rl:ae (ae Int)->ae Int->ae (ae Int):=nh sn
abbrev wW:ae (ae Int)->ae AV->ae Int->AV->ae AV:=jX sn
noncomputable def pD:ae (ae Int)->ae Int->aC
 |k::ks,x=>aX (sn k x) true (pD ks x)
 |[],_=>false
noncomputable def intsOf:ae AV->aq (ae Int)
 |[]=>af []
 | .int i::r=>match intsOf r with
  |some l=>af (i::l)
  |none=>none
 |_=>none
def Da(a:AV)(K:ae Int->Prop):Prop:=match a with
 | .tup xs=>(match intsOf xs with
  |some k=>K k
  |none=>False)
 |_=>False
noncomputable def kT(a:AV):aq {k:ae Int // ∀K:ae Int->Prop,K k->Da a K}:=match a with
 | .tup xs=>match h:intsOf xs with
  |some k=>af ⟨k,λ K z=>by show(match intsOf xs with|some k=>K k|none=>False); rw[h]; exact z⟩
  |none=>none
 |_=>none
noncomputable def intAt:ae Int->Nat->Int
 |v::_,0=>v
 |_::r,i+1=>intAt r i
 |[],_=>0
noncomputable def rowAt:ae (ae Int)->Nat->ae Int
 |v::_,0=>v
 |_::r,i+1=>rowAt r i
 |[],_=>[]
theorem yX:∀(l:ae Int) (i:Nat),i < l.length->l[i]?=af (intAt l i)
 |[],i,h=>bt h (mx _)
 |_::_,0,_=>rfl
 |_::r,i+1,h=>yX r i (iq h)
theorem zk:∀(l:ae (ae Int)) (i:Nat),i < l.length->l[i]?=af (rowAt l i)
 |[],i,h=>bt h (mx _)
 |_::_,0,_=>rfl
 |_::r,i+1,h=>zk r i (iq h)
theorem wL:∀(l:ae AV) (i:Nat),i < l.length->l[i]?=af (fC l i)
 |[],i,h=>bt h (mx _)
 |_::_,0,_=>rfl
 |_::r,i+1,h=>wL r i (iq h)
noncomputable def setInt:ae Int->Nat->Int->ae Int
 |_::r,0,v=>v::r
 |u::r,i+1,v=>u::setInt r i v
 |[],_,_=>[]
theorem qG:∀(l:ae Int) (i:Nat) (v:Int),setInt l i v=l.set i v
 |[],_,_=>rfl
 |_::_,0,_=>rfl
 |u::r,i+1,v=>ah (u::·) (qG r i v)
theorem Dv:∀(l:ae AV) (i:Nat) (v:AV),setAt l i v=l.set i v
 |[],_,_=>rfl
 |_::_,0,_=>rfl
 |u::r,i+1,v=>ah (u::·) (Dv r i v)
def gP(n:Int)(len:Nat)(k:Prop):Prop:=need (0<=n/\n < len/\n < 4611686018427387904) k
def X0(o:AO)(i:AV)(K:AV->Prop):Prop:=match o with
 | .lst xs=>j9 i λ n=>gP n xs.length (K (fC xs n.toNat))
 | .il ns=>j9 i λ n=>gP n ns.length (K (.int (intAt ns n.toNat)))
 | .ba bs=>j9 i λ n=>gP n bs.length (K (.int (bs.getD n.toNat 0).toNat))
 | .iM ks vs=>j9 i λ n=>I1 (lkI ks vs n) K
 | .bG ks vs=>Da i λ k=>I1 (wJ ks vs k) K
 |_=>False
def IH(a i:AV)(mem:ae AO)(K:AV->Prop):Prop:=match a with
 | .own p=>pG mem p λ o=>X0 o i K
 | .lF xs=>j9 i λ n=>gP n xs.length (K (.int (intAt xs n.toNat)))
 | .row xs=>j9 i λ n=>gP n xs.length (K (.int (intAt xs n.toNat)))
 | .nM xz=>j9 i λ n=>gP n xz.length (K (.lF (rowAt xz n.toNat)))
 | .lst xs=>j9 i λ n=>gP n xs.length (K (fC xs n.toNat))
 | .tup xs=>j9 i λ n=>gP n xs.length (K (fC xs n.toNat))
 | .bG ks vs=>Da i λ k=>I1 (wJ ks vs k) K
 |_=>False
def ZD(o:AO)(p:Nat)(i v:AV)(σ:St)(K:St->Prop):Prop:=match o with
 | .lst xs=>j9 i λ n=>gP n xs.length (K (σ.put p (.lst (setAt xs n.toNat v))))
 | .il ns=>j9 i λ n=>j9 v λ m=>gP n ns.length (K (σ.put p (.il (setInt ns n.toNat m))))
 | .ba bs=>j9 i λ n=>j9 v λ m=>gP n bs.length (need (0<=m/\m < 256/\bs.length < 1000000) (K (σ.put p (.ba (bs.set n.toNat (eE m.toNat))))))
 | .iM ks vs=>j9 i λ n=>cK (bB ks.length 1000) (K (σ.put p (.iM (qd ks n) (Di ks vs n v))))
 | .bG ks vs=>Da i λ k=>cK (bB ks.length 1000) (K (σ.put p (.bG (rl ks k) (wW ks vs k v))))
 |_=>False
def Jh(a i v:AV)(σ:St)(K:St->Prop):Prop:=lI a λ p=>pG σ.mem p λ o=>ZD o p i v σ K
section
variable{G:BM}{ρ:ae au}
theorem xU.u0{es:ae bf}{us:ae ak}{Q:ae bf->ae ak->Prop}(h:xU [] es us)(f:Q [] []):Q es us:=(eG h)▸(f_ h)▸f
theorem xU.uc{k:Int}{ks:ae Int}{es:ae bf}{us:ae ak}{Q:ae bf->ae ak->Prop}(h:xU (k::ks) es us)(f:∀t u es us,xU ks es us->Q (⟨hashInt k, .int k t,u⟩::es) (u::us)):Q es us:=
 aD h λ aa h=>h.elim λ aa h=>h.elim λ aa h=>h.elim λ aa h=>h.1▸h.2.1▸f _ _ _ _ h.2.2
theorem isInt_self{k:Int}{t:kq}:vd k (.int k t)=true:=by simp [vd]
noncomputable def F7(prog:aK)(w:bw)(es:ae bf):Prop:=∀e∈es,∃k,(cE prog w).is k e.key=true/\e.hash=(cE prog w).hash k
theorem xU.pairs{prog:aK}{w:bw}:∀{ks:ae Int} {es:ae bf} {us:ae ak},xU ks es us->Pairs (cE prog w) es (ks.zip us)/\F7 prog w es/\us.length=ks.length
 |[],_,_=>λ h=>h.u0 (Q:=λ es us=>Pairs (cE prog w) es ([].zip us)/\F7 prog w es/\us.length=0) ⟨.nil,λ aa h=>bt h bK,rfl⟩
 |k::ks,_,_=>λ h=>h.uc (Q:=λ es us=>Pairs (cE prog w) es ((k::ks).zip us)/\F7 prog w es/\us.length=ks.length+1) λ t u es us h=>
  have z:=xU.pairs (prog:=prog) (w:=w) h
  ⟨.cons (isInt_self (t:=t)) rfl z.1,λ e he=>(bQ.mp he).elim (λ q=>q.symm▸⟨k,isInt_self (t:=t),rfl⟩) (z.2.1 e),ah (·+1) z.2.2⟩
theorem xU.of{prog:aK}{w:bw}{es:ae bf}{kvs:ae (Int×ak)}(h:Pairs (cE prog w) es kvs):F7 prog w es->xU (kvs.map (·.1)) es (kvs.map (·.2)):=by
 induction h with
 |nil=>exact λ aa=>⟨rfl,rfl⟩
 |@cons e kv es kvs h1 h2 _ ih=>
  intro hk
  obtain⟨k,hk1,hk2⟩:=hk e aR
  obtain rfl:=(cE prog w).inj _ _ _ hk1 h1
  obtain⟨t,ht⟩:=Value.isInt_shape hk1
  obtain⟨hh,key,val⟩:=e
  dsimp only at ht h2 hk2
  subst ht h2 hk2
  exact⟨t,_,es,_,rfl,rfl,ih λ e he=>hk e (aP _ he)⟩
end
section
variable{κ β:Type}[DecidableEq κ]{e:κ->κ->aC}{G:BM}{ρ:ae au}{n:κ}{v:AV}
structure WI(e:κ->κ->aC):Prop where
 t:∀{a b},e a b=true->a=b
 f:∀{a b},e a b=false->a≠b
theorem Pg:WI KZ:=⟨bg,oH⟩
theorem T3:WI sn:=⟨GE,K1⟩
noncomputable def Cd(xs:ae (κ×β))(n:κ):aq β:=(xs.find? λ x=>decide (x.1=n)).map (·.2)
theorem yS{x:κ×β}{xs:ae (κ×β)}(h:x.1=n):Cd (x::xs) n=af x.2:=ah (ed λ x:κ×β=>x.2) (List.find?_cons_of_pos (p:=λ x:κ×β=>decide (x.1=n)) (cz h))
theorem wu{x:κ×β}{xs:ae (κ×β)}(h:x.1≠n):Cd (x::xs) n=Cd xs n:=ah (ed λ x:κ×β=>x.2) (List.find?_cons_of_neg (p:=λ x:κ×β=>decide (x.1=n)) λ z=>h (bg z))
theorem An(E:WI e){val:β->ak}:∀{xs:ae (κ×β)} {vs:ae AV},E7 e (xs.map (·.1)) vs n=af v->bJ G ρ vs (xs.map λ x=>val x.2)->∃b,Cd xs n=af b/\VR G ρ v (val b)
 |[],_=>λ h aa=>cu h
 |_::_,[]=>λ h aa=>cu h
 |x::xs,w::vs=>λ h hv=>condB h (λ q h=>⟨x.2,yS (E.t q),am h▸hv.cc.1⟩) λ q h=>(An E h hv.cc.2).imp λ b=> .imp_left (wu (E.f q)).trans
noncomputable def sj(k:κ)(f:κ×β->κ×β)(nw:κ×β):ae (κ×β)->ae (κ×β)
 |[]=>[nw]
 |x::r=>if x.1=k then f x::r else x::sj k f nw r
theorem w9{f:κ×β->κ×β}{nw x:κ×β}{r:ae (κ×β)}(h:x.1=n):sj n f nw (x::r)=f x::r:=dq h
theorem tU{f:κ×β->κ×β}{nw x:κ×β}{r:ae (κ×β)}(h:x.1≠n):sj n f nw (x::r)=x::sj n f nw r:=bC h
theorem vD(k:κ)(f:κ×β->κ×β)(nw:κ×β):∀l:ae (κ×β),(l.map (·.1)).Nodup->
  (if l.any (λ x=>decide (x.1=k)) then l.map (λ x=>if x.1=k then f x else x) else l++[nw])=sj k f nw l
 |[],_=>rfl
 |x::r,hn=>by
  have hn:=dU.mp hn
  by_cases h:x.1=k
  ·rw[w9 h,List.any_cons,dq (g8.mpr (.inl (cz h))),A1,dq h]
   exact ah (f x::·) ((sk λ y hy=>bC λ(e:y.1=k)=>hn.1 (show x.1∈_ from(e.trans h.symm)▸g9 (f:=λ x:κ×β=>x.1) hy)).trans (List.map_id r))
  ·rw[tU h,← vD k f nw r hn.2,List.any_cons,dj h,Bool.false_or,A1,bC h]
   split<;>rfl
theorem Ds{f:κ×β->κ×β}{nw y:κ×β}:∀{l:ae (κ×β)},y∈sj n f nw l->y=nw\/y∈l\/∃x∈l,y=f x
 |[],h=> .inl (be.mp h)
 |x::r,h=>by
  by_cases q:x.1=n
  ·rw[w9 q] at h
   exact(bQ.mp h).elim (λ e=> .inr (.inr ⟨x, .head _,e⟩)) λ h=> .inr (.inl (.tail _ h))
  ·rw[tU q] at h
   exact(bQ.mp h).elim (λ e=> .inr (.inl (e▸ .head _))) λ h=>(Ds h).imp_right<| .imp (.tail _)<| .imp λ aa=> .imp_left (.tail _)
theorem qD(E:WI e){val:β->ak}{f:β->β}{nb:β}{u:ak}(hu:VR G ρ v u)(h0:val nb=u)(hf:∀b,val (f b)=u):∀{xs:ae (κ×β)} {vs:ae AV},bJ G ρ vs (xs.map λ x=>val x.2)->
  (sj n (λ x=>(x.1,f x.2)) (n,nb) xs).map (·.1)=nh e (xs.map (·.1)) n/\bJ G ρ (jX e (xs.map (·.1)) vs n v) ((sj n (λ x=>(x.1,f x.2)) (n,nb) xs).map λ x=>val x.2)
 |[],_=>λ aa=>⟨rfl, .cons (show VR G ρ v (val nb) from h0.symm▸hu) .nil⟩
 |_::_,[]=>λ hv=>bt (show _::_=[] from hv) (lM _ _)
 |x::xs,w::vs=>λ hv=>by
  rw[A1]
  cases q:e x.1 n with
  |true=>rw[w9 (E.t q),qE q,ou q]; exact⟨rfl, .cons (show VR G ρ v (val (f x.2)) from(hf x.2).symm▸hu) hv.cc.2⟩
  |false=>rw[tU (E.f q),mN q,lp q]; exact have z:=qD E hu h0 hf hv.cc.2; ⟨ah (x.1::·) z.1, .cons hv.cc.1 z.2⟩
theorem sf(E:WI e):∀{ks:ae κ},ks.Nodup->(nh e ks n).Nodup/\∀x∈nh e ks n,x=n\/x∈ks
 |[],_=>⟨pb _ _,λ x h=> .inl (be.mp h)⟩
 |k::ks,h=>by
  have h:=dU.mp h
  have z:=sf E h.2
  cases q:e k n with
  |true=>rw[qE q]; exact⟨dU.mpr h,λ x=> .inr⟩
  |false=>rw[mN q]; exact⟨dU.mpr ⟨λ hm=>(z.2 k hm).elim (E.f q) h.1,z.1⟩,λ x hx=>(bQ.mp hx).elim (λ e=> .inr (e▸ .head _)) λ hx=>(z.2 x hx).imp_right (.tail _)⟩
end
section
variable{G:BM}{ρ:ae au}
theorem I8{ks:ae Int}{vs:ae AV}{us:ae ak}{n:Int}{v:AV}{u:ak}(hv:bJ G ρ vs us)(hl:us.length=ks.length)(hu:VR G ρ v u):
  (sj n (λ kv=>(kv.1,u)) (n,u) (ks.zip us)).map (·.1)=qd ks n/\bJ G ρ (Di ks vs n v) ((sj n (λ kv=>(kv.1,u)) (n,u) (ks.zip us)).map (·.2)):=by
 have z:=qD (n:=n) Pg (val:=id) (f:=λ aa=>u) hu rfl (λ aa=>rfl) (xs:=ks.zip us) (vs:=vs) (by rw[show((ks.zip us).map λ x=>id x.2)=us from List.map_snd_zip (aU hl)]; exact hv)
 rw[hF (aU hl.symm)] at z
 exact z
theorem uD{n:Int}{ks:ae Int}(h:ks.Nodup):(qd ks n).Nodup/\∀x∈qd ks n,x=n\/x∈ks:=sf Pg h
end
def TK(G:BM)(k:ae Int)(a:au):Prop:=∃o vs,G a=af o/\pC o vs/\cx k vs.toList
section
variable{G:BM}{ρ:ae au}
theorem pB.u0{es:ae bf}{us:ae ak}{Q:ae bf->ae ak->Prop}(h:pB G [] es us)(f:Q [] []):Q es us:=(eG h)▸(f_ h)▸f
theorem pB.uc{k:ae Int}{ks:ae (ae Int)}{es:ae bf}{us:ae ak}{Q:ae bf->ae ak->Prop}(h:pB G (k::ks) es us)(f:∀a u es us,TK G k a->pB G ks es us->Q (⟨FF k, .ref a,u⟩::es) (u::us)):Q es us:=
 aD h λ aa h=>h.elim λ o h=>h.elim λ vs h=>h.elim λ aa h=>h.elim λ aa h=>h.elim λ aa h=>h.1▸h.2.1▸f _ _ _ _ ⟨o,vs,h.2.2.1.1,h.2.2.1.2,h.2.2.2.1⟩ h.2.2.2.2
abbrev JZ(prog:aK)(w:bw)(G:BM)(ks:ae (ae Int))(es:ae bf)(us:ae ak)(xs:ae (ae Int×au×ak)):Prop:=xs.map (·.1)=ks/\xs.map (·.2.2)=us/\es=xs.map (entryOfKey (g7 (cE prog w)))/\∀x∈xs,TK G x.1 x.2.1
theorem pB.rows{prog:aK}{w:bw}:∀{ks:ae (ae Int)} {es:ae bf} {us:ae ak},pB G ks es us->∃xs,JZ prog w G ks es us xs
 |[],_,_=>λ h=>h.u0 (Q:=λ es us=>∃xs,JZ prog w G [] es us xs) ⟨[],rfl,rfl,rfl,λ aa h=>bt h bK⟩
 |k::ks,_,_=>λ h=>h.uc (Q:=λ es us=>∃xs,JZ prog w G (k::ks) es us xs) λ a u es us x h=>(pB.rows (prog:=prog) (w:=w) h).elim λ xs z=>
  ⟨(k,a,u)::xs,ah (k::·) z.1,ah (u::·) z.2.1,ah (⟨FF k, .ref a,u⟩::·) z.2.2.1,λ y hy=>(bQ.mp hy).elim (λ e=>e.symm▸x) (z.2.2.2 y)⟩
theorem pB.of{prog:aK}{w:bw}:∀{xs:ae (ae Int×au×ak)},(∀x∈xs,TK G x.1 x.2.1)->pB G (xs.map (·.1)) (xs.map (entryOfKey (g7 (cE prog w)))) (xs.map (·.2.2))
 |[]=>λ aa=>⟨rfl,rfl⟩
 |x::xs=>λ h=>(h x (.head _)).elim λ o z=>z.elim λ vs z=>⟨x.2.1,o,vs,x.2.2,_,_,rfl,rfl,⟨z.1,z.2.1⟩,z.2.2,pB.of λ y hy=>h y (.tail _ hy)⟩
theorem CI{prog:aK}{w:bw}:∀{k:ae Int} {vs:ae ak},cx k vs->ItemsAre (cE prog w) k vs
 |[],_=>λ h=>h.u0 (Q:=λ vs=>ItemsAre (cE prog w) [] vs) .nil
 |i::k,_=>λ h=>h.uc (Q:=λ vs=>ItemsAre (cE prog w) (i::k) vs) λ t r h=> .cons (isInt_self (t:=t)) (CI h)
theorem TK.key{prog:aK}{w:bw}{k:ae Int}{a:au}{h:Heap}(x:TK G k a)(kg:∀a o,G a=af o->h.get? a=af o):(g7 (cE prog w)).is h k a:=by
 exact x.elim λ o x=>x.elim λ vs x=>x.2.1.2.elim λ n h3=>⟨o,vs,n,kg _ _ x.1,x.2.1.1,h3,CI x.2.2⟩
theorem LJ{x:AV}{r:ae AV}{k:ae Int}{Q:Prop}(h:intsOf (x::r)=af k)(f:∀i l,x= .int i->intsOf r=af l->i::l=k->Q):Q:=by
 rcases x with _|_|_|i|_|_|_|_|_|_|_|_|_|_|_|_|_|_
 case int=>
  have h:(match intsOf r with|some l=>af (i::l)|none=>none)=af k:=h
  cases q:intsOf r with
  |none=>rw[q] at h; exact cu h
  |some l=>rw[q] at h; exact f i l rfl q (am h)
 all_goals exact cu h
theorem VR.iuE{a:AV}{i:Int}{v:ak}{Q:ak->Prop}(h:VR G ρ a v)(e:a= .int i)(k:∀t,Q (.int i t)):Q v:=VR.iu (e▸h:VR G ρ (.int i) v) k
theorem Da.e{a:AV}{K:ae Int->Prop}{Q:AV->Prop}(h:Da a K)(k:∀xs l,intsOf xs=af l->K l->Q (.tup xs)):Q a:=by
 rcases a with _|_|_|_|_|_|_|_|_|_|xs|_|_|_|_|_|_|_
 case tup=>
  have h:(match intsOf xs with|some k=>K k|none=>False):=h
  cases q:intsOf xs with
  |none=>rw[q] at h; exact h.elim
  |some l=>rw[q] at h; exact k xs l q h
 all_goals exact h.elim
theorem oh:∀{xs:ae AV} {k:ae Int} {vs:ae ak},intsOf xs=af k->bJ G ρ xs vs->cx k vs
 |[],k,_=>λ h hv=>hv.u0 (Q:=λ vs=>cx k vs) (am h▸rfl)
 |x::r,k,_=>λ h hv=>hv.uc (Q:=λ vs=>cx k vs) λ u us hu hr=>LJ h λ i l e q ek=>hu.iuE (Q:=λ u=>cx k (u::us)) e λ t=>ek▸cx.cons (oh q hr)
theorem sR{a:AV}{v:ak}{K:ae Int->Prop}(va:VR G ρ a v)(h:Da a K):∃k adr,v= .ref adr/\TK G k adr/\K k:=
 Da.e h (Q:=λ a=>VR G ρ a v->∃k adr,v= .ref adr/\TK G k adr/\K k) (λ xs k e h va=>va.Jm (Q:=λ v=>∃k adr,v= .ref adr/\TK G k adr/\K k) λ l o vs h1 h2 h3=>⟨k,l,rfl,⟨o,vs,h1,h2,oh e h3⟩,h⟩) va
theorem G8{ks:ae (ae Int)}{vs:ae AV}{xs:ae (ae Int×au×ak)}{n:ae Int}{v:AV}(h:wJ ks vs n=af v)(e:xs.map (·.1)=ks)(hv:bJ G ρ vs (xs.map (·.2.2))):∃p,atKey xs n=af p/\VR G ρ v p.2:=An (val:=(·.2)) T3 (e▸h) hv
theorem wK{n:ae Int}:∀{ks:ae (ae Int)} {xs:ae (ae Int×au×ak)},xs.map (·.1)=ks->(atKey xs n).isSome=pD ks n
 |_,[]=>λ e=>e▸rfl
 |_,x::xs=>λ e=>e▸by
  show(Cd (x::xs) n).isSome=aX (sn x.1 n) true (pD (xs.map (·.1)) n)
  cases q:sn x.1 n with
  |true=>rw[yS (GE q)]; rfl
  |false=>rw[wu (K1 q)]; exact wK rfl
theorem I_{ks:ae (ae Int)}{vs:ae AV}{xs:ae (ae Int×au×ak)}{n:ae Int}{a:au}{v:AV}{u:ak}(e:xs.map (·.1)=ks)(hv:bJ G ρ vs (xs.map (·.2.2)))(hu:VR G ρ v u):
  (sj n (λ x=>(x.1,x.2.1,u)) (n,a,u) xs).map (·.1)=rl ks n/\bJ G ρ (wW ks vs n v) ((sj n (λ x=>(x.1,x.2.1,u)) (n,a,u) xs).map (·.2.2))/\
   ∀y∈sj n (λ x=>(x.1,x.2.1,u)) (n,a,u) xs,(y.1=n/\y.2.1=a)\/∃x∈xs,y.1=x.1/\y.2.1=x.2.1:=
 have z:=qD (n:=n) T3 (val:=(·.2)) (f:=λ b=>(b.1,u)) (nb:=(a,u)) hu rfl (λ aa=>rfl) hv
 ⟨e▸z.1,e▸z.2,λ y hy=>by
  rcases Ds hy with e|h|⟨x,h,e⟩
  ·exact .inl (e▸⟨rfl,rfl⟩)
  ·exact .inr ⟨y,h,rfl,rfl⟩
  ·exact .inr ⟨x,h,e▸⟨rfl,rfl⟩⟩⟩
theorem Dh{n:ae Int}{ks:ae (ae Int)}(h:ks.Nodup):(rl ks n).Nodup/\∀x∈rl ks n,x=n\/x∈ks:=sf T3 h
end
def lC(prog:aK)(w:bw)(A:bn)(u v:ak)(Q:ak->ar->Prop)(s:ar):Prop:=
 ∃T id,s.TypeIs u T/\hV (.type T) "__getitem__"=pure (af (.builtin id))/\aH (aE prog w) A (getItem u v) Q dw s
section
variable{P:cC}{ct:Ct}{F:Fd}{G:BM}{ρ:ae au}{σ:St}{s:ar}{Kv:AV->St->Prop}
theorem Aw{a:AV}{v:ak}{K:Int->Prop}(va:VR G ρ a v)(h:j9 a K):∃i t,v= .int i t/\a= .int i/\K i:=
 h.e (Q:=λ a=>VR G ρ a v->∃i t,v= .int i t/\a= .int i/\K i) (λ i h va=>aD va λ t e=>⟨i,t,e,rfl,h⟩) va
theorem ltN{n:Int}{l:Nat}(h0:0<=n)(h1:n < l):n.toNat < l:=(mW h0).mpr h1
theorem gP.u{n:Int}{l:Nat}{k Q:Prop}(h:gP n l k)(f:0<=n->n < l->n < 4611686018427387904->k->Q):Q:=need.u h λ b k=>f b.1 b.2.1 b.2.2 k
def J1(prog:aK)(w:bw)(A:bn)(s:ar)(adr:au)(vs:bD ak):Prop:=∀(i:Int) (t:kq) (x:ak) (Q:ak->ar->Prop),0<=i->i < 4611686018427387904->vs.toList[i.toNat]?=af x->Q x s->lC prog w A (.ref adr) (.int i t) Q s
theorem Sd{vs:bD ak}{i:Nat}{x:ak}(hx:vs.toList[i]?=af x):vs[i]?=af x:=bP.symm.trans hx
theorem vn{prog:aK}{w:bw}{A:bn}{adr:au}{o:Obj}{vs:bD ak}(ho:s.heap.get? adr=af o)(hl:iY o vs):J1 prog w A s adr vs:=λ i t x Q h0 h2 hx h=>
 have L:s.heap.IsList adr vs:=⟨o,ho,hl.is⟩
 ⟨"list",_,L.typeIs,A8.lookup,wpAny_getItem_list L h0 (dr h2 (by decide)) (Sd hx) h⟩
theorem AW{prog:aK}{w:bw}{A:bn}{adr:au}{o:Obj}{vs:bD ak}(ho:s.heap.get? adr=af o)(hl:pC o vs):J1 prog w A s adr vs:=λ i t x Q h0 h2 hx h=>
 have L:IsTup s.heap adr vs:=⟨o,ho,hl.1,hl.2⟩
 have IL:i < vs.size:=(mW h0).mp (jr hx)
 ⟨"tuple",_,L.typeIs,slot_tuple_getitem.lookup,PyProof.Rows.getItem_tuple L (aO (by decide) h0) (dr h2 (by decide)) (seqIndex_of h0 IL) (Sd hx) h⟩
theorem set_plain{prog:aK}{w:bw}{A:bn}{l:au}{vs:bD ak}{k:Int}{t:kq}{v:ak}{Q:e9->ar->Prop}(hl:s.heap.PlainList l vs)(h0:0<=k)(X_:k < 2 ^ 63)(hn:k < vs.size)
  (hQ:∀h',h'.PlainList l (vs.setIfInBounds k.toNat v)->kZ l s.heap h'->Q () {s with heap:=h'}):aH (aE prog w) A (eT (.ref l) (.int k t) v) Q dw s:=by
 obtain⟨n,ho⟩:=hl
 have hT:s.TypeIs (.ref l) "list":=⟨_,ho,rfl⟩
 unfold eT
 try with_reducible refine bU ?_
 first|refine aj (aw ?_)|skip
 refine aj (lN hT (by decide) ?_)
 refine aj (de (name:=bT "__setitem__") hT slot_list_setitem (cA slot_list_setitem hT entry_list_setitem ?_ (args_list_setitem _ _ _)))
 show aH _ _ (Builtin.List.listSubscript? (.int k t)>>=_) _ _ s
 refine aj (wpAny_listSubscript_int (fitsIndex_of h0 X_) ?_)
 clear X_
 obtain⟨j,rfl⟩:=pu h0
 have hj:j < vs.size:=by omega
 show aH _ _ ((seqItemAt l j>>=λ r=>pure (r.map (j,·)))>>=_) _ _ s
 refine aj (aj (wpAny_seqItemAt ho rfl (aw ?_)))
 rw[e6 hj]
 show aH _ _ (setSeqItemAt l j v>>=_) _ _ s
 have km:∀f:bD ak->bD ak,∃m,Obj.mapSeq f (⟨.type "list",none, .seq vs n,#[]⟩:Obj)=⟨.type "list",none, .seq (f vs) m,#[]⟩:=λ f=>⟨_,rfl⟩
 obtain⟨m,km⟩:=km (·.setIfInBounds j v)
 have fin:(s.heap.update l (Obj.mapSeq (·.setIfInBounds j v))).PlainList l (vs.setIfInBounds j v):=⟨m,by rw[dK _ ho (by rw[km]; rfl)]; exact ah af km⟩
 refine aj (wpAny_setSeqItemAt ho rfl ?_)
 first
  |exact aj (aw (aw ⟨.none,rfl,aw (hQ _ fin (dF ..))⟩))
  |exact aw ⟨.none,rfl,aw (hQ _ fin (dF ..))⟩
theorem SZ:hV (.type "dict") "__getitem__"=pure (af (.builtin "dict.__getitem__")):=slot_dict_getitem.lookup
theorem xU.dict{prog:aK}{w:bw}{adr:au}{ob:Obj}{es:bD bf}{ep:Nat}{ks:ae Int}{us:ae ak}(h1:s.heap.get? adr=af ob)(hc:ob.ExactDict)(hd:ob.data= .dict es ep)(hk:xU ks es.toList us)(hn:ks.Nodup):s.heap.DictOf (cE prog w) adr (ks.zip us):=
 have p:=hk.pairs (prog:=prog) (w:=w)
 ⟨ob,es,ep,h1,hc,hd,λ e he=>p.2.1 e (gK.mpr he),p.1,(hF (aU p.2.2.symm)).symm▸hn⟩
theorem SM(O:gM P ct F):F.A.units+1 < qN:=aT (fF (bq _ _) 1) (b_ (ge O.room.2.1) (by decide))
theorem FB{xs:ae (ae Int×au×ak)}{k:ae Int}{ka:au}{y:ak}(hn:(xs.map (·.1)).Nodup):storedH xs k ka y=sj k (λ x=>(x.1,x.2.1,y)) (k,ka,y) xs:=by
 rw[← vD k (λ x=>(x.1,x.2.1,y)) (k,ka,y) xs hn]
 unfold storedH putAt
 rw[show(atKey xs k).isSome=xs.any (λ x=>decide (x.1=k)) by unfold atKey; rw[Option.isSome_map,List.isSome_find?]]
theorem VR.Xw{xs:ae Int}{a:au}{o:Obj}{vs:bD ak}(h:G a=af o)(k:pC o vs)(r:cx xs vs.toList):VR G ρ (.lF xs) (.ref a):=i5 a ⟨o,vs,rfl,h,k,r⟩
section
variable{i:AV}{v:ak}{adr:au}{ob:Obj}(R:RF F ct.aS G ρ σ s)(vi:VR G ρ i v)
include R vi
theorem VN{vs:bD ak}{xs:ae AV}(g:J1 P.prog P.w F.A s adr vs)(hv:bJ G ρ xs vs.toList)(h:j9 i λ n=>gP n xs.length (Kv (fC xs n.toNat) σ)):lC P.prog P.w F.A (.ref adr) v (PE F ct.aS G ρ Kv) s:=
 h.u (Q:=λ v=>lC P.prog P.w F.A (.ref adr) v (PE F ct.aS G ρ Kv) s) vi λ n t h=>h.u λ b0 b1 b2 h=>(hv.get (wL _ _ (ltN b0 b1))).elim λ x z=>g n t x _ b0 b2 z.1 (PE.here R z.2 h)
theorem VM{vs:bD ak}{xs:ae Int}(g:J1 P.prog P.w F.A s adr vs)(hv:cx xs vs.toList)(h:j9 i λ n=>gP n xs.length (Kv (.int (intAt xs n.toNat)) σ)):lC P.prog P.w F.A (.ref adr) v (PE F ct.aS G ρ Kv) s:=
 h.u (Q:=λ v=>lC P.prog P.w F.A (.ref adr) v (PE F ct.aS G ρ Kv) s) vi λ n t h=>h.u λ b0 b1 b2 h=>(hv.get (yX _ _ (ltN b0 b1))).elim λ t' z=>g n t _ _ b0 b2 z (PE.here R VR.mF h)
theorem ac9{vs:bD ak}{xs:ae (ae Int)}(g:J1 P.prog P.w F.A s adr vs)(hv:∀(i:Nat) (y:ae Int),xs[i]?=af y->∃(b:au) (o:Obj) (us:bD ak),vs[i]?=af (du b)/\G b=af o/\pC o us/\cx y us.toList)
  (h:j9 i λ n=>gP n xs.length (Kv (.lF (rowAt xs n.toNat)) σ)):lC P.prog P.w F.A (.ref adr) v (PE F ct.aS G ρ Kv) s:=
 h.u (Q:=λ v=>lC P.prog P.w F.A (.ref adr) v (PE F ct.aS G ρ Kv) s) vi λ n t h=>h.u λ b0 b1 b2 h=>(hv _ _ (zk _ _ (ltN b0 b1))).elim λ b z=>z.elim λ o z=>z.elim λ us z=>
  g n t _ _ b0 b2 (bP.trans z.1) (PE.here R (VR.Xw z.2.1 z.2.2.1 z.2.2.2) h)
theorem O7{es:bD bf}{ep:Nat}{ks:ae Int}{us:ae ak}{vs:ae AV}(h1:s.heap.get? adr=af ob)(hc:ob.ExactDict)(hd:ob.data= .dict es ep)(hk:xU ks es.toList us)(hv:bJ G ρ vs us)(hn:ks.Nodup)
  (h:j9 i λ n=>I1 (lkI ks vs n) λ x=>Kv x σ):lC P.prog P.w F.A (.ref adr) v (PE F ct.aS G ρ Kv) s:=
 h.u (Q:=λ v=>lC P.prog P.w F.A (.ref adr) v (PE F ct.aS G ρ Kv) s) vi λ n t h=>h.u λ x hx h=>
  have p:=(hk.pairs (prog:=P.prog) (w:=P.w)).2.2
  have D:=xU.dict (prog:=P.prog) (w:=P.w) h1 hc hd hk hn
  (An (xs:=ks.zip us) (val:=id) Pg ((hF (aU p.symm)).symm▸hx) ((List.map_snd_zip (aU p):(ks.zip us).map (λ x=>id x.2)=us).symm▸hv)).elim λ y z=>
   ⟨"dict",_,D.mapOf.typeIs,SZ,wpAny_getItem_of (show(cE P.prog P.w).is n (.int n t)=true from isInt_self (t:=t)) D.mapOf z.1 (PE.toks R z.2 h)⟩
theorem GA(O:gM P ct F){es:bD bf}{ep:Nat}{ks:ae (ae Int)}{us:ae ak}{vs:ae AV}(h1:s.heap.get? adr=af ob)(hc:ob.ExactDict)(hd:ob.data= .dict es ep)(hk:pB G ks es.toList us)(hv:bJ G ρ vs us)(hn:ks.Nodup)
  (h:Da i λ n=>I1 (wJ ks vs n) λ x=>Kv x σ):lC P.prog P.w F.A (.ref adr) v (PE F ct.aS G ρ Kv) s:=
 (sR vi h).elim λ k z=>z.elim λ ka z=>z.2.2.u λ x hx h=>(hk.rows (prog:=P.prog) (w:=P.w)).elim λ xs q=>
  have D:s.heap.DictOfH (g7 (cE P.prog P.w)) adr xs:=⟨ob,es,ep,h1,hc,hd,q.2.2.1,λ x hx=>(q.2.2.2 x hx).key R.rm.kg,q.1.symm▸hn⟩
  (G8 hx q.1 (q.2.1.symm▸hv)).elim λ p y=>z.1.symm▸⟨"dict",_,D.typeIs,SZ,wpAny_getItem_heap (SM O) (z.2.1.key R.rm.kg) D y.1 (PE.toks R y.2 h)⟩
theorem OK{bs:ae bZ}(h1:s.heap.get? adr=af (nK bs))(h:j9 i λ n=>gP n bs.length (Kv (.int (bs.getD n.toNat 0).toNat) σ)):lC P.prog P.w F.A (.ref adr) v (PE F ct.aS G ρ Kv) s:=
 h.u (Q:=λ v=>lC P.prog P.w F.A (.ref adr) v (PE F ct.aS G ρ Kv) s) vi λ n t h=>h.u λ b0 b1 b2 h=>⟨"bytearray",_,dd h1,eV.lookup,Kr h1 b0 (dr b2 (by decide)) b1 (PE.toks R VR.mF h)⟩
end
theorem ER{o:AO}{ob:Obj}{i:AV}{v:ak}{adr:au}(O:gM P ct F)(R:RF F ct.aS G ρ σ s)(vi:VR G ρ i v)(h1:s.heap.get? adr=af ob)(q:OR G ρ o ob)(h:X0 o i λ x=>Kv x σ):lC P.prog P.w F.A (.ref adr) v (PE F ct.aS G ρ Kv) s:=by
 rcases o with _|_|_|_|_|_|_|_
 case lst=>exact aD q λ vs q=>VN R vi (vn h1 q.1) q.2 h
 case il=>exact aD q λ vs q=>VM R vi (vn h1 q.1) q.2 h
 case iM=>exact(f_ q).elim λ es z=>z.elim λ ep z=>z.elim λ us z=>O7 R vi h1 (eG q) z.1 z.2.1 z.2.2.1 z.2.2.2 h
 case bG=>exact(f_ q).elim λ es z=>z.elim λ ep z=>z.elim λ us z=>GA R vi O h1 (eG q) z.1 z.2.1 z.2.2.1 z.2.2.2 h
 case ba=>exact OK R vi (h1.trans (ah af q)) h
 all_goals exact h.elim
theorem EQ{a i:AV}{u v:ak}(O:gM P ct F)(R:RF F ct.aS G ρ σ s)(va:VR G ρ a u)(vi:VR G ρ i v)(h:IH a i σ.mem λ x=>Kv x σ):
  lC P.prog P.w F.A u v (PE F ct.aS G ρ Kv) s:=by
 rcases a with _|_|_|_|_|p|_|_|xs|xs|xs|xs|xs|_|_|_|_|⟨ks,us⟩
 case own=>exact va.Qv (Q:=λ u=>lC P.prog P.w F.A u v (PE F ct.aS G ρ Kv) s) λ adr ha=>pG.u h λ o e h=>(R.rm.obj p adr o ha ((eL ..).symm.trans e)).elim λ ob z=>ER O R vi z.1 z.2 h
 case lF=>exact MO (Q:=λ u=>lC P.prog P.w F.A u v (PE F ct.aS G ρ Kv) s) va λ adr o vs z=>VM R vi (AW (R.rm.kg _ _ z.1) z.2.1) z.2.2 h
 case nM=>exact MO (Q:=λ u=>lC P.prog P.w F.A u v (PE F ct.aS G ρ Kv) s) va λ adr o vs z=>ac9 R vi (AW (R.rm.kg _ _ z.1) z.2.1) z.2.2.2 h
 case tup=>exact va.Jm (Q:=λ u=>lC P.prog P.w F.A u v (PE F ct.aS G ρ Kv) s) λ adr o vs z1 z2 z3=>VN R vi (AW (R.rm.kg _ _ z1) z2) z3 h
 case lst=>exact va.lstU (Q:=λ u=>lC P.prog P.w F.A u v (PE F ct.aS G ρ Kv) s) λ adr o vs z1 z2 z3=>VN R vi (vn (R.rm.kg _ _ z1) z2) z3 h
 case row=>exact va.Dl (Q:=λ u=>lC P.prog P.w F.A u v (PE F ct.aS G ρ Kv) s) λ adr o vs z1 z2 z3=>VM R vi (vn (R.rm.kg _ _ z1) z2) z3 h
 case bG=>exact aD va λ adr z=>z.elim λ o z=>z.elim λ es z=>z.elim λ ep z=>z.elim λ us z=>z.1▸GA R vi O (R.rm.kg _ _ z.2.1) z.2.2.1 z.2.2.2.1 z.2.2.2.2.1 z.2.2.2.2.2.1 z.2.2.2.2.2.2.1 h
 all_goals exact h.elim
section
variable{i v:AV}{j y:ak}{adr:au}{ob:Obj}{p:Nat}{K:St->Prop}{Q:e9->ar->Prop}(R:RF F ct.aS G ρ σ s)(jK:ρ[p]?=af adr)(h1:s.heap.get? adr=af ob)(hq:∀b7 s',RF F ct.aS G ρ b7 s'->K b7->Q () s')(vi:VR G ρ i j)(vv:VR G ρ v y)
include R jK h1 hq vi vv
theorem ac_{xs:ae AV}{vals:bD ak}(hl:iY ob vals)(hv:bJ G ρ xs vals.toList)(h:j9 i λ n=>gP n xs.length (K (σ.put p (.lst (setAt xs n.toNat v))))):aH (aE P.prog P.w) F.A (eT (.ref adr) j y) Q dw s:=
 h.u (Q:=λ j=>aH (aE P.prog P.w) F.A (eT (.ref adr) j y) Q dw s) vi λ n t h=>h.u λ b0 b1 b2 h=>set_plain (hl.plain h1) b0 (dr b2 (by decide)) ((bh.symm.trans hv.length).symm▸b1) λ h' L' sb=>(iY.of L').elim λ o' z=>
  hq _ _ (R.rx (v8:= .lst _) (s':={s with heap:=h'}) jK z.1 ⟨_,z.2,by rw[xK,Dv]; exact hv.set vv⟩ (λ b o n e=>sb.extBut b o n e) ⟨rfl,rfl,rfl⟩) h
theorem ZC{xs:ae Int}{vals:bD ak}(hl:iY ob vals)(hv:cx xs vals.toList)(h:j9 i λ n=>j9 v λ m=>gP n xs.length (K (σ.put p (.il (setInt xs n.toNat m))))):aH (aE P.prog P.w) F.A (eT (.ref adr) j y) Q dw s:=
 h.u (Q:=λ j=>aH (aE P.prog P.w) F.A (eT (.ref adr) j y) Q dw s) vi λ n t h=>h.u (Q:=λ y=>aH (aE P.prog P.w) F.A (eT (.ref adr) (.int n t) y) Q dw s) vv λ m t' h=>h.u λ b0 b1 b2 h=>
  set_plain (hl.plain h1) b0 (dr b2 (by decide)) ((bh.symm.trans hv.length).symm▸b1) λ h' L' sb=>(iY.of L').elim λ o' z=>
  hq _ _ (R.rx (v8:= .il _) (s':={s with heap:=h'}) jK z.1 ⟨_,z.2,by rw[xK,qG]; exact hv.set⟩ (λ b o n e=>sb.extBut b o n e) ⟨rfl,rfl,rfl⟩) h
theorem setB{bs:ae bZ}(e:ob=nK bs)(h:j9 i λ n=>j9 v λ m=>gP n bs.length (need (0<=m/\m < 256/\bs.length < 1000000) (K (σ.put p (.ba (bs.set n.toNat (eE m.toNat))))))):aH (aE P.prog P.w) F.A (eT (.ref adr) j y) Q dw s:=
 h.u (Q:=λ j=>aH (aE P.prog P.w) F.A (eT (.ref adr) j y) Q dw s) vi λ n t h=>h.u (Q:=λ y=>aH (aE P.prog P.w) F.A (eT (.ref adr) (.int n t) y) Q dw s) vv λ m t' h=>h.u λ b0 b1 b2 h=>h.u λ c h=>
  Kt (h1.trans (ah af e)) b0 (dr b2 (by decide)) b1 c.1 c.2.1 (aG (eX c.2.2) (by decide)) λ h' e1 e2=>hq _ _ (R.rx (v8:= .ba _) (s':={s with heap:=h'}) jK e1 rfl e2 ⟨rfl,rfl,rfl⟩) h
theorem ZA{es:bD bf}{ep:Nat}{ks:ae Int}{us:ae ak}{vs:ae AV}(hc:ob.ExactDict)(hd:ob.data= .dict es ep)(hk:xU ks es.toList us)(hv:bJ G ρ vs us)(hn:ks.Nodup)
  (h:j9 i λ n=>cK (bB ks.length 1000) (K (σ.put p (.iM (qd ks n) (Di ks vs n v))))):aH (aE P.prog P.w) F.A (eT (.ref adr) j y) Q dw s:=
 h.u (Q:=λ j=>aH (aE P.prog P.w) F.A (eT (.ref adr) j y) Q dw s) vi λ n t h=>h.u λ kz h=>by
  have p3:=(hk.pairs (prog:=P.prog) (w:=P.w)).2.2
  have Sj:((ks.zip us).map (·.1)).Nodup:=(hF (aU p3.symm)).symm▸hn
  have hlen:(ks.zip us).length<=gh:=aG (List.length_zip▸Nat.min_le_left _ _) (aG (aQ kz) (by decide))
  have z:=I8 (n:=n) hv p3 vv
  refine wpAny_setItem_pairs (hsz:=hlen) (show(cE P.prog P.w).is n (.int n t)=true from isInt_self (t:=t)) (xU.dict h1 hc hd hk hn) λ h' D' sb=>?_
  rw[show tv (ks.zip us) n y=_ from vD n (λ kv=>(kv.1,y)) (n,y) _ Sj] at D'
  exact D'.elim λ o' D'=>D'.elim λ Be D'=>D'.elim λ JK D'=>hq _ _ (R.rx (v8:= .iM _ _) (s':={s with heap:=h',toks:=s.toks+1}) jK D'.1 ⟨D'.2.1,Be,JK,_,D'.2.2.1,z.1▸xU.of D'.2.2.2.2.1 λ e he=>D'.2.2.2.1 e (gK.mp he),z.2,(uD hn).1⟩ (λ b o n e=>sb.extBut b o n e) ⟨rfl,rfl,rfl⟩) h
theorem ZB(O:gM P ct F){es:bD bf}{ep:Nat}{ks:ae (ae Int)}{us:ae ak}{vs:ae AV}(hc:ob.ExactDict)(hd:ob.data= .dict es ep)(hk:pB G ks es.toList us)(hv:bJ G ρ vs us)(hn:ks.Nodup)
  (h:Da i λ k=>cK (bB ks.length 1000) (K (σ.put p (.bG (rl ks k) (wW ks vs k v))))):aH (aE P.prog P.w) F.A (eT (.ref adr) j y) Q dw s:=
 (sR vi h).elim λ k q=>q.elim λ ka q=>q.2.2.u λ kz h=>(hk.rows (prog:=P.prog) (w:=P.w)).elim λ xs e=>q.1.symm▸by
  have Sj:(xs.map (·.1)).Nodup:=e.1.symm▸hn
  have hlen:xs.length<=gh:=aG (aU ((bL (f:=λ x:ae Int×au×ak=>x.1) (as:=xs)).symm.trans (ah fZ e.1))) (aG (aQ kz) (by decide))
  have z:=I_ (n:=k) (a:=ka) e.1 (e.2.1.symm▸hv) vv
  refine wpAny_setItem_heap (hsz:=hlen) (SM O) (q.2.1.key R.rm.kg) (⟨ob,es,ep,h1,hc,hd,e.2.2.1,λ x hx=>(e.2.2.2 x hx).key R.rm.kg,Sj⟩:s.heap.DictOfH (g7 (cE P.prog P.w)) adr xs) λ h' D' sb=>?_
  rw[FB Sj] at D'
  exact D'.elim λ o' D'=>D'.elim λ Be D'=>D'.elim λ JK D'=>hq _ _ (R.rx (v8:= .bG _ _) (s':={s with heap:=h',toks:=s.toks+(g7 (cE P.prog P.w)).draws k}) jK D'.1 ⟨D'.2.1,Be,JK,_,D'.2.2.1,z.1▸D'.2.2.2.1▸pB.of λ x hx=>(z.2.2 x hx).elim (λ w=>w.1▸w.2▸q.2.1) λ w=>w.elim λ x' w=>w.2.1▸w.2.2▸e.2.2.2 x' w.1,z.2.1,(Dh hn).1⟩ (λ b o n e=>sb.extBut b o n e) ⟨rfl,rfl,rfl⟩) h
end
theorem Fw{o:AO}{i v:AV}{j y:ak}{adr:au}{ob:Obj}{p:Nat}{K:St->Prop}{Q:e9->ar->Prop}(O:gM P ct F)(R:RF F ct.aS G ρ σ s)(jK:ρ[p]?=af adr)(h1:s.heap.get? adr=af ob)(q:OR G ρ o ob)(vi:VR G ρ i j)(vv:VR G ρ v y)(h:ZD o p i v σ K)
  (hq:∀b7 s',RF F ct.aS G ρ b7 s'->K b7->Q () s'):aH (aE P.prog P.w) F.A (eT (.ref adr) j y) Q dw s:=by
 rcases o with _|_|_|_|_|_|_|_
 case lst=>exact aD q λ vs q=>ac_ R jK h1 hq vi vv q.1 q.2 h
 case il=>exact aD q λ vs q=>ZC R jK h1 hq vi vv q.1 q.2 h
 case iM=>exact(f_ q).elim λ es z=>z.elim λ ep z=>z.elim λ us z=>ZA R jK h1 hq vi vv (eG q) z.1 z.2.1 z.2.2.1 z.2.2.2 h
 case bG=>exact(f_ q).elim λ es z=>z.elim λ ep z=>z.elim λ us z=>ZB R jK h1 hq vi vv O (eG q) z.1 z.2.1 z.2.2.1 z.2.2.2 h
 case ba=>exact setB R jK h1 hq vi vv q h
 all_goals exact h.elim
theorem Fv{a i v:AV}{u j y:ak}{K:St->Prop}{Q:e9->ar->Prop}(O:gM P ct F)(R:RF F ct.aS G ρ σ s)(va:VR G ρ a u)(vi:VR G ρ i j)(vv:VR G ρ v y)(h:Jh a i v σ K)
  (hq:∀b7 s',RF F ct.aS G ρ b7 s'->K b7->Q () s'):aH (aE P.prog P.w) F.A (eT u j y) Q dw s:=
 lI.u (Q:=λ a=>VR G ρ a u->aH (aE P.prog P.w) F.A (eT u j y) Q dw s) h (λ p h va=>va.Qv (Q:=λ u=>aH (aE P.prog P.w) F.A (eT u j y) Q dw s) λ adr ha=>pG.u h λ o e h=>(R.rm.obj p adr o ha ((eL ..).symm.trans e)).elim λ ob z=>Fw O R ha z.1 z.2 vi vv h hq) va
end
section
variable{P:cC}{ct:Ct}
theorem Fn{c:Int×Int}:∀{q:ae (Int×Int)} {i:Nat} {r:ae Int},q9 q r->WB q i=af c->i < r.length/\c.1<=intAt r i/\intAt r i<=c.2
 |[],_,_=>λ aa h=>cu h
 |q::qs,0,_=>λ g h=>g.uc (Q:=λ r=>0 < r.length/\c.1<=intAt r 0/\intAt r 0<=c.2) λ x xs h1 h2 aa=>am h▸⟨py _,h1,h2⟩
 |q::qs,i+1,_=>λ g h=>g.uc (Q:=λ r=>i+1 < r.length/\c.1<=intAt r (i+1)/\intAt r (i+1)<=c.2) λ x xs aa aa g=>(Fn (i:=i) g h).imp_left ge
theorem q9.cons{q:Int×Int}{qs:ae (Int×Int)}{x:Int}{xs:ae Int}(h:q.1<=x)(k:x<=q.2)(r:q9 qs xs):q9 (q::qs) (x::xs):=⟨x,xs,rfl,h,k,r⟩
theorem Hu{c:Int×Int}{x:Int}(h:c.1<=x)(h':x<=c.2):∀{q:ae (Int×Int)} {i:Nat} {r:ae Int},q9 q r->q9 (QC q i c) (setInt r i x)
 |[],_,_=>λ g=>g.u0 (Q:=λ r=>q9 [] (setInt r _ x)) rfl
 |q::qs,0,_=>λ g=>g.uc (Q:=λ r=>q9 (c::qs) (setInt r 0 x)) λ aa aa aa aa g=> .cons h h' g
 |q::qs,i+1,_=>λ g=>g.uc (Q:=λ r=>q9 (q::QC qs i c) (setInt r (i+1) x)) λ aa aa h1 h2 g=> .cons h1 h2 (Hu h h' g)
abbrev adm:ae Int->ae TV->Int->aq TV:=E7 KZ
abbrev NC:ae Int->ae TV->Int->TV->ae TV:=jX KZ
abbrev adl:ae (ae Int)->ae TV->ae Int->aq TV:=E7 sn
abbrev V2:ae (ae Int)->ae TV->ae Int->TV->ae TV:=jX sn
theorem ly{t:TV}{v a:AV}(g:GV t a)(e:t= .ex v):a=v:=(e▸g:GV (.ex v) a)
theorem GS.at{s:AS}{σ:St}{p:Nat}{o x:TO}(gs:GS s σ)(h:gU s.mem p=af o)(e:o=x):∃o',bM σ.mem p=af o'/\GO σ.mem x o':=gs.mem.get p x (h.trans (ah af e))
theorem GS.vs{s:AS}{σ:St}{p:Nat}{o x:TO}{α:Type}{f:α->AO}{R:α->Prop}(gs:GS s σ)(h:gU s.mem p=af o)(e:o=x)(k:∀o',GO σ.mem x o'->∃us,o'=f us/\R us):∃us,bM σ.mem p=af (f us)/\R us:=
 (gs.at h e).elim λ o' z=>(k o' z.2).imp λ aa=> .imp_left λ q=>z.1.trans (ah af q)
theorem lR{a b:Nat}(h:fu a b=true):a < b:=aQ h
abbrev t_(t i:TV)(s:AS)(u:TV):Prop:=∀a b σ,GV t a->GV i b->GS s σ->∃v,GV u v/\∀K:AV->Prop,K v->IH a b σ.mem K
noncomputable def Ah(n:Int):aC:=decide (0<=n/\n < 4611686018427387904)
theorem jW{n:Int}{l:Nat}{k:Prop}(h:Ah n=true)(hl:n.toNat < l)(hk:k):gP n l k:=have h:=bg h; TP ⟨h.1,(mW h.1).mp hl,h.2⟩ hk
def gIl(t i:TV)(s:AS):aq {u:TV // t_ t i s u}:=ob (nR t) λ p=>ob (lr i) λ n=>jN (gU s.mem p.1) λ o ho=>ob (oIl o) λ q=>bE (Ah n.1) λ hn=>jN (WB q.1 n.1.toNat) λ c hc=>af ⟨Sy c,λ a b σ ga gb gs=>
 (gs.vs ho q.2 λ aa z=>z).elim λ r z=>have w:=Fn z.2 hc; ⟨.int (intAt r n.1.toNat),tR w.2.1 w.2.2,λ K k=>(ly ga p.2).symm▸(ly gb n.2).symm▸dI z.1 (jW hn w.1 k)⟩⟩
def abF(t i:TV)(s:AS):aq {u:TV // t_ t i s u}:=ob (nR t) λ p=>ob (lr i) λ n=>jN (gU s.mem p.1) λ o ho=>ob (oLst o) λ q=>bE (Ah n.1) λ hn=>jN (Rq q.1 n.1.toNat) λ u hu=>af ⟨u,λ a b σ ga gb gs=>
 (gs.vs ho q.2 λ aa z=>z).elim λ r z=>(t3 z.2 hu).elim λ v w=>⟨v,w.2.2,λ K k=>(ly ga p.2).symm▸(ly gb n.2).symm▸dI z.1 (jW hn (jr w.1) (w.2.1.symm▸k))⟩⟩
def abD(t i:TV)(s:AS):aq {u:TV // t_ t i s u}:=ob (nR t) λ p=>ob (lr i) λ n=>jN (gU s.mem p.1) λ o ho=>ob (Y0 o) λ q=>jN (adm q.1.1 q.1.2 n.1) λ u hu=>af ⟨u,λ a b σ ga gb gs=>
 (gs.vs ho q.2 λ aa z=>z).elim λ r z=>(Am z.2 hu).elim λ v w=>⟨v,w.2,λ K k=>(ly ga p.2).symm▸(ly gb n.2).symm▸dI z.1 (se w.1 k)⟩⟩
def gRw(t i:TV)(s:AS):aq {u:TV // t_ t i s u}:=ob (tRw t) λ q=>ob (lr i) λ n=>bE (Ah n.1) λ hn=>jN (WB q.1 n.1.toNat) λ c hc=>af ⟨Sy c,λ a b σ ga gb gs=>
 aD (q.2▸ga:GV (.rw q.1) a) λ r z=>have w:=Fn z.2 hc; ⟨.int (intAt r n.1.toNat),tR w.2.1 w.2.2,λ K k=>z.1.symm▸(ly gb n.2).symm▸jW hn w.1 k⟩⟩
def abG(t i:TV)(s:AS):aq {u:TV // t_ t i s u}:=ob (VZ t) λ q=>ob (lr i) λ n=>bE (Ah n.1&&fu n.1.toNat q.1.length) λ hn=>af ⟨.ex (.int (intAt q.1 n.1.toNat)),λ a b σ ga gb gs=>
 ⟨_,rfl,λ K k=>(ly ga q.2).symm▸(ly gb n.2).symm▸jW (aF hn).1 (lR (aF hn).2) k⟩⟩
def Nv(t:TV):aq {k:ae Int // ∀b,GV t b->∀K:ae Int->Prop,K k->Da b K}:=ob (toAV t) λ a=>ob (kT a.1) λ k=>af ⟨k.1,λ b gb K z=>(a.2 _ gb).symm▸k.2 K z⟩
def abE(t i:TV)(s:AS):aq {u:TV // t_ t i s u}:=ob (nR t) λ p=>ob (Nv i) λ n=>jN (gU s.mem p.1) λ o ho=>ob (oDct o) λ q=>jN (adl q.1.1 q.1.2 n.1) λ u hu=>af ⟨u,λ a b σ ga gb gs=>
 (gs.vs ho q.2 λ aa z=>z).elim λ r z=>(Am z.2 hu).elim λ v w=>⟨v,w.2,λ K k=>(ly ga p.2).symm▸dI z.1 (n.2 b gb _ (se w.1 k))⟩⟩
def XJ(a i:AV)(m:ae AO):aq {v:AV // ∀K:AV->Prop,K v->IH a i m K}:=match a with
 | .own p=>jN (bM m p) λ o ho=>match o,ho with
  | .bG ks vs,ho=>ob (kT i) λ k=>jN (wJ ks vs k.1) λ v hv=>af ⟨v,λ K z=>dI ho (k.2 _ (se hv z))⟩
  |_,_=>none
 | .bG ks vs=>ob (kT i) λ k=>jN (wJ ks vs k.1) λ v hv=>af ⟨v,λ K z=>k.2 _ (se hv z)⟩
 | .lst xs=>match i with
  | .int n=>bE (Ah n&&fu n.toNat xs.length) λ h=>af ⟨fC xs n.toNat,λ K z=>jW (aF h).1 (lR (aF h).2) z⟩
  |_=>none
 | .tup xs=>match i with
  | .int n=>bE (Ah n&&fu n.toNat xs.length) λ h=>af ⟨fC xs n.toNat,λ K z=>jW (aF h).1 (lR (aF h).2) z⟩
  |_=>none
 |_=>none
def gEx(t i:TV)(s:AS):aq {u:TV // t_ t i s u}:=ob (toAV t) λ a=>ob (toAV i) λ b=>ob (toSt s) λ σ=>ob (XJ a.1 b.1 σ.1.mem) λ v=>af ⟨.ex v.1,λ a' b' b7 ga gb gs=>⟨v.1,rfl,λ K z=>(a.2 _ ga).symm▸(b.2 _ gb).symm▸(σ.2 _ gs).symm▸v.2 K z⟩⟩
def W3(t i:TV)(s:AS):aq {u:TV // t_ t i s u}:=oe (gIl t i s) (oe (gRw t i s) (oe (abD t i s) (oe (abG t i s) (oe (abF t i s) (oe (abE t i s) (gEx t i s))))))
abbrev yu(t i x:TV)(s s':AS):Prop:=∀a b v σ,GV t a->GV i b->GV x v->GS s σ->∃b7,GS s' b7/\∀K:St->Prop,K b7->Jh a b v σ K
def pIl(t i x:TV)(s:AS):aq {s':AS // yu t i x s s'}:=ob (nR t) λ p=>ob (lr i) λ n=>jN (mh x) λ c hc=>jN (gU s.mem p.1) λ o ho=>ob (oIl o) λ q=>bE (Ah n.1&&fu n.1.toNat q.1.length) λ hn=>af ⟨s.put p.1 (.il (QC q.1 n.1.toNat c)),λ a b v σ ga gb gv gs=>
 (gs.vs ho q.2 λ aa z=>z).elim λ r z=>mh.u (Q:=λ v=>∃b7,GS (s.put p.1 (.il (QC q.1 n.1.toNat c))) b7/\∀K:St->Prop,K b7->Jh a b v σ K) hc gv λ j j0 j1=>
  ⟨σ.put p.1 (.il (setInt r n.1.toNat j)),⟨gs.loc,gs.mem.set (o:= .il q.1) (ho.trans (ah af q.2)) rfl ⟨_,rfl,Hu j0 j1 z.2⟩ (.inl rfl)⟩,λ K k=>(ly ga p.2).symm▸(ly gb n.2).symm▸dI z.1 (jW (aF hn).1 (z.2.len▸lR (aF hn).2) k)⟩⟩
def acV(t i x:TV)(s:AS):aq {s':AS // yu t i x s s'}:=ob (nR t) λ p=>ob (lr i) λ n=>jN (gU s.mem p.1) λ o ho=>ob (oLst o) λ q=>bE (Ah n.1&&fu n.1.toNat q.1.length) λ hn=>af ⟨s.put p.1 (.lst (sv q.1 n.1.toNat x)),λ a b v σ ga gb gv gs=>
 (gs.vs ho q.2 λ aa z=>z).elim λ r z=>⟨σ.put p.1 (.lst (setAt r n.1.toNat v)),⟨gs.loc,gs.mem.set (o:= .lst q.1) (ho.trans (ah af q.2)) rfl ⟨_,rfl,dH.AH gv z.2⟩ (.inl rfl)⟩,λ K k=>
  (ly ga p.2).symm▸(ly gb n.2).symm▸dI z.1 (jW (aF hn).1 (z.2.len▸lR (aF hn).2) k)⟩⟩
def acT(t i x:TV)(s:AS):aq {s':AS // yu t i x s s'}:=ob (nR t) λ p=>ob (lr i) λ n=>jN (gU s.mem p.1) λ o ho=>ob (Y0 o) λ q=>bE (bB q.1.1.length 1000&&a_ q.1.1.length q.1.2.length) λ hn=>af ⟨s.put p.1 (.iM (qd q.1.1 n.1) (NC q.1.1 q.1.2 n.1 x)),λ a b v σ ga gb gv gs=>
 (gs.vs ho q.2 λ aa z=>z).elim λ r z=>⟨σ.put p.1 (.iM (qd q.1.1 n.1) (Di q.1.1 r n.1 v)),⟨gs.loc,gs.mem.set (o:= .iM q.1.1 q.1.2) (ho.trans (ah af q.2)) rfl ⟨_,rfl,qe gv (aL (aF hn).2) z.2⟩ (.inl rfl)⟩,λ K k=>
  (ly ga p.2).symm▸(ly gb n.2).symm▸dI z.1 (cK.i (aF hn).1 k)⟩⟩
def acU(t i x:TV)(s:AS):aq {s':AS // yu t i x s s'}:=ob (nR t) λ p=>ob (Nv i) λ n=>jN (gU s.mem p.1) λ o ho=>ob (oDct o) λ q=>bE (bB q.1.1.length 1000&&a_ q.1.1.length q.1.2.length) λ hn=>af ⟨s.put p.1 (.bG (rl q.1.1 n.1) (V2 q.1.1 q.1.2 n.1 x)),λ a b v σ ga gb gv gs=>
 (gs.vs ho q.2 λ aa z=>z).elim λ r z=>⟨σ.put p.1 (.bG (rl q.1.1 n.1) (wW q.1.1 r n.1 v)),⟨gs.loc,gs.mem.set (o:= .bG q.1.1 q.1.2) (ho.trans (ah af q.2)) rfl ⟨_,rfl,qe gv (aL (aF hn).2) z.2⟩ (.inl rfl)⟩,λ K k=>
  (ly ga p.2).symm▸dI z.1 (n.2 b gb _ (cK.i (aF hn).1 k))⟩⟩
def Y1(m:ae AO)(p:Nat):aq {c:ae (ae Int)×ae AV // bM m p=af (.bG c.1 c.2)}:=jN (bM m p) λ o ho=>match o,ho with
 | .bG ks vs,ho=>af ⟨(ks,vs),ho⟩
 |_,_=>none
noncomputable def acR(a:AV):aq {p:Nat // a= .own p}:=match a with
 | .own p=>af ⟨p,rfl⟩
 |_=>none
def pEx(t i x:TV)(s:AS):aq {s':AS // yu t i x s s'}:=ob (toAV t) λ a=>ob (toAV i) λ b=>ob (toAV x) λ c=>ob (toSt s) λ σ=>ob (acR a.1) λ p=>ob (Y1 σ.1.mem p.1) λ d=>ob (kT b.1) λ k=>bE (bB d.1.1.length 1000) λ hn=>
 ob (Y5 (σ.1.put p.1 (.bG (rl d.1.1 k.1) (wW d.1.1 d.1.2 k.1 c.1)))) λ s'=>af ⟨s'.1,λ a' b' v' b7 ga gb gv gs=>⟨_,s'.2,λ K z=>((a.2 _ ga).trans p.2).symm▸(b.2 _ gb).symm▸(c.2 _ gv).symm▸(σ.2 _ gs).symm▸dI d.2 (k.2 _ (cK.i hn z))⟩⟩
def W6(t i x:TV)(s:AS):aq {s':AS // yu t i x s s'}:=oe (pIl t i x s) (oe (acV t i x s) (oe (acT t i x s) (oe (acU t i x s) (pEx t i x s))))
def FO(o i:SE P ct)(p:c9):SE P ct where
 bA:= .Subscript o.bA i.bA p
 run:=λ σ K=>o.run σ λ a aI=>i.run aI λ b aV=>IH a b aV.mem λ v=>K v aV
 ch:=vt 1 i.bA&&(o.ch&&i.ch)
 star:=λ aa aa=>rfl
 ok:=λ c F G ρ σ s Kv O R h=>X.Subscript (SE.then o i (aF (aF c).2).1 (aF (aF c).2).2 O R h λ G' ρ' a b u v b7 s' g x R' va vb k=>(EQ O R' va vb k).elim λ T z=>z.elim λ id z=>CM g x (tail_any z.1 z.2.1 z.2.2 ((HE (aF c).1).1 _ _)))
 ab:=RS o.ab i.ab λ t u s=>ob (W3 t u s) λ x=>af [(x.1,s)]
 cO:=λ fo=>rQ fo λ t u s outs a b σ h ga gb gs=>ob.u h λ x aa h=>(x.2 a b σ ga gb gs).elim λ v k=>D2.one h k.1 gs λ K z=>k.2 _ z
theorem VU{e o i:aB}{p:c9}{l:Nat}{env:Env}:oD e (af (.Subscript o i p)) l env=pure false:=by
 rcases e with _|_|_|_|_|_|_|_|_|_|_|_|_|_|_|_|_|_|_|_|_|_|_|_|_|_|_
 all_goals rfl
def SU(o i:SE P ct)(p':c9)(e:SE P ct)(p:c9):SX P ct where
 bA:= .Assign [.Subscript o.bA i.bA p'] e.bA p
 run:=λ σ K=>e.run σ λ v aI=>o.run aI λ a aV=>i.run aV λ b dC=>Jh a b v dC λ qm=>K .d8 qm
 ch:=e.ch&&(o.ch&&i.ch)
 ok:=λ c F G ρ σ s Kv O R h=>X.ty VU (X.mono (e.ok (aF c).1 F G ρ σ s _ O R h) λ v s₁ z=>z.u λ dW c8 av aI fK fh dS vv bH=>SE.then o i (aF (aF c).2).1 (aF (aF c).2).2 O dS bH λ G' ρ' a b u w b7 s' g x R' va vb k=>
   X.any (Fv O R' va vb (vv.up g x) k λ Jp s'' Ba k=>PF.d8 (fK.trans g) (fh.trans x) Ba k))
 ab:=λ s=>bO (e.ab s) λ x s=>bO (o.ab s) λ t s=>bO (i.ab s) λ u s=>ob (W6 t u x s) λ s'=>af [(.d8,s'.1)]
 cO:=λ fo s outs h σ gs=>(e.cO fo).bind h gs λ x s l h v σ gv gs=>(o.cO fo).bind h gs λ t s l h a σ ga gs=>(i.cO fo).bind h gs λ u s l h b σ gb gs=>ob.u h λ s' aa h=>(s'.2 a b v σ ga gb gv gs).elim λ b7 k=>D2.one h rfl k.1 λ K z=>k.2 _ z
end
theorem oq{Q Q':ak->ar->Prop}(h:∀v s,Q v s->Q' v s):∀r s,Hk Q r s->Hk Q' r s:=λ r s z=>by
 rcases r with _|(_|_|_|_)
 case ok.ret=>exact h _ _ z
 all_goals exact z.elim
theorem WQ.mono{G:BM}{ρ:ae au}{s s':ar}{K K':AV->ae AO->Prop}(k:∀a m,K a m->K' a m){v:ak}(h:WQ G ρ s K v s'):WQ G ρ s K' v s':=by
 rcases h with⟨_,_,_,_,h,a,b,c,d⟩
 exact⟨_,_,_,_,⟨h.1,h.2.1,h.2.2.1,h.2.2.2.1,k _ _ h.2.2.2.2⟩,a,b,c,d⟩
theorem WC.mono{P:cC}{f:au}{dx:ae AV}{mem:ae AO}{K K':AV->ae AO->Prop}(h:WC P f dx mem K)(k:∀a m,K a m->K' a m):WC P f dx mem K':=
 ⟨λ A G ρ s vs r p m v=>X.el (h.run A G ρ s vs r p m v) (oq λ aa aa=>WQ.mono k)⟩
structure cC.Le(P Q:cC):Prop where
 prog:P.prog=Q.prog
 w:P.w=Q.w
 d:P.d<=Q.d
 j:P.j=false\/P.j=Q.j
 i8:∀G,Q.Φ G->P.Φ G
theorem cC.Le.code{P Q:cC}(x:P.Le Q){A:bn}{c:vL}{R:iQ->ar->Prop}{s:ar}(h:dP P.j (aE P.prog P.w) A c R s):dP Q.j (aE Q.prog Q.w) A c R s:=
 x.prog▸x.w▸x.j.elim (λ j=>X.BZ (X.Iy (j▸h))) λ j=>j▸h
theorem WC.up{P Q:cC}(x:P.Le Q){f:au}{dx:ae AV}{mem:ae AO}{K:AV->ae AO->Prop}(h:WC P f dx mem K):WC Q f dx mem K:=
 ⟨λ A G ρ s vs r p m v=>x.code (h.run A G ρ s vs (r.less x.d) (x.i8 G p) m v)⟩
mutual
noncomputable def ew(f:Nat->Nat):AV->AV
 | .own i=> .own (f i)
 | .tup xs=> .tup (eu f xs)
 | .lst xs=> .lst (eu f xs)
 | .inst C ks vs=> .inst C ks (eu f vs)
 | .undef=> .undef
 | .none=> .none
 | .bool b=> .bool b
 | .int i=> .int i
 | .ky b=> .ky b
 | .val v=> .val v
 | .fn a=> .fn a
 | .lF x=> .lF x
 | .nM x=> .nM x
 | .row x=> .row x
 | .any=> .any
 | .j_ a b c=> .j_ a b c
 | .iM ks vs=> .iM ks (eu f vs)
 | .bG ks vs=> .bG ks (eu f vs)
noncomputable def eu(f:Nat->Nat):ae AV->ae AV
 |[]=>[]
 |v::r=>ew f v::eu f r
end
def lq(f:Nat->Nat):AO->AO
 | .lst xs=> .lst (eu f xs)
 | .inst C j=> .inst C (f j)
 | .ns ks vs=> .ns ks (eu f vs)
 | .iM ks vs=> .iM ks (eu f vs)
 | .bG ks vs=> .bG ks (eu f vs)
 | .il ns=> .il ns
 | .ba bs=> .ba bs
 | .tab=> .tab
section
variable{G:BM}{ρ ρ':ae au}{f:Nat->Nat}
theorem MB{i j:Nat}{v:ak}(h:∀a,ρ[i]?=af a->ρ'[j]?=af a):(∃a,ρ[i]?=af a/\v= .ref a)->∃a,ρ'[j]?=af a/\v= .ref a:= .imp λ a=> .imp_left (h a)
mutual
theorem VR.eU(h:∀i a,ρ[i]?=af a->ρ'[f i]?=af a):∀(a:AV) {v:ak},VR G ρ a v->VR G ρ' (ew f a) v
 | .own i,_=>MB (h i)
 | .tup xs,_=>NI (dG.refl G) λ aa aa=> .imp_right (bJ.eU h xs)
 | .lst xs,_=>NI (dG.refl G) λ aa aa=> .imp_right (bJ.eU h xs)
 | .inst _ _ us,_=>AX (dG.refl G) λ aa=>bJ.eU h us
 | .iM _ us,_=>S7 (dG.refl G) λ aa aa aa aa aa=> .imp_right<| .imp_right<| .imp_right<| .imp_left (bJ.eU h us)
 | .bG _ us,_=>S7 (dG.refl G) λ aa aa aa aa aa=> .imp_right<| .imp_right<| .imp_right<| .imp_left (bJ.eU h us)
 | .undef,_=>id
 | .none,_=>id
 | .bool _,_=>id
 | .int _,_=>id
 | .ky _,_=>id
 | .val _,_=>id
 | .fn _,_=>id
 | .lF _,_=>id
 | .nM _,_=>id
 | .row _,_=>id
 | .any,_=>id
 | .j_ _ _ _,_=>id
theorem bJ.eU(h:∀i a,ρ[i]?=af a->ρ'[f i]?=af a):∀(as:ae AV) {vs:ae ak},bJ G ρ as vs->bJ G ρ' (eu f as) vs
 |[],_=>id
 |v::r,_=> .imp λ aa=> .imp λ aa=> .imp_right<| .imp (VR.eU h v) (bJ.eU h r)
end
mutual
theorem VR.lL(h:∀i a,ρ'[f i]?=af a->ρ[i]?=af a):∀(a:AV) {v:ak},VR G ρ' (ew f a) v->VR G ρ a v
 | .own i,_=>MB (h i)
 | .tup xs,_=>NI (dG.refl G) λ aa aa=> .imp_right (bJ.lL h xs)
 | .lst xs,_=>NI (dG.refl G) λ aa aa=> .imp_right (bJ.lL h xs)
 | .inst _ _ us,_=>AX (dG.refl G) λ aa=>bJ.lL h us
 | .iM _ us,_=>S7 (dG.refl G) λ aa aa aa aa aa=> .imp_right<| .imp_right<| .imp_right<| .imp_left (bJ.lL h us)
 | .bG _ us,_=>S7 (dG.refl G) λ aa aa aa aa aa=> .imp_right<| .imp_right<| .imp_right<| .imp_left (bJ.lL h us)
 | .undef,_=>id
 | .none,_=>id
 | .bool _,_=>id
 | .int _,_=>id
 | .ky _,_=>id
 | .val _,_=>id
 | .fn _,_=>id
 | .lF _,_=>id
 | .nM _,_=>id
 | .row _,_=>id
 | .any,_=>id
 | .j_ _ _ _,_=>id
theorem bJ.lL(h:∀i a,ρ'[f i]?=af a->ρ[i]?=af a):∀(as:ae AV) {vs:ae ak},bJ G ρ' (eu f as) vs->bJ G ρ as vs
 |[],_=>id
 |v::r,_=> .imp λ aa=> .imp λ aa=> .imp_right<| .imp (VR.lL h v) (bJ.lL h r)
end
theorem OR.eU(h:∀i a,ρ[i]?=af a->ρ'[f i]?=af a){ao:AO}{o:Obj}(q:OR G ρ ao o):OR G ρ' (lq f ao) o:=by
 rcases ao with _|_|_|_|_|_|_|_
 case lst=>exact cQ (λ aa=> .imp_right (bJ.eU h _)) q
 case inst=>exact cQ (λ aa=> .imp_left (h _ _)) q
 case ns=>exact cQ (λ aa=> .imp λ aa=> .imp λ aa=> .imp_right<| .imp_right<|bJ.eU h _) q
 case iM=>exact iN (.imp λ aa=> .imp λ aa=> .imp λ aa=> .imp_right<| .imp_right<| .imp_left<|bJ.eU h _) q
 case bG=>exact iN (.imp λ aa=> .imp λ aa=> .imp λ aa=> .imp_right<| .imp_right<| .imp_left<|bJ.eU h _) q
 all_goals exact q
theorem OR.lL(h:∀i a,ρ'[f i]?=af a->ρ[i]?=af a){ao:AO}{o:Obj}(q:OR G ρ' (lq f ao) o):OR G ρ ao o:=by
 rcases ao with _|_|_|_|_|_|_|_
 case lst=>exact cQ (λ aa=> .imp_right (bJ.lL h _)) q
 case inst=>exact cQ (λ aa=> .imp_left (h _ _)) q
 case ns=>exact cQ (λ aa=> .imp λ aa=> .imp λ aa=> .imp_right<| .imp_right<|bJ.lL h _) q
 case iM=>exact iN (.imp λ aa=> .imp λ aa=> .imp λ aa=> .imp_right<| .imp_right<| .imp_left<|bJ.lL h _) q
 case bG=>exact iN (.imp λ aa=> .imp λ aa=> .imp λ aa=> .imp_right<| .imp_right<| .imp_left<|bJ.lL h _) q
 all_goals exact q
end
noncomputable def eU(sel:ae Nat)(n:Nat):Nat->Nat:=λ i=>go sel n i
where go:ae Nat->Nat->Nat->Nat
 |[],n,i=>n+i
 |j::_,_,0=>j
 |_::r,n,i+1=>go r n i
theorem MS:∀(sel:ae Nat) (n i j:Nat),sel[i]?=af j->eU.go sel n i=j
 |[],_,_,_=>cu
 |_::_,_,0,_=>am
 |_::r,n,i+1,j=>MS r n i j
theorem MQ(n i:Nat):∀sel:ae Nat,eU.go sel n (sel.length+i)=n+i
 |[]=>ah (n+·) (fy i)
 |j::r=>(ah (eU.go (j::r) n) (cV r.length 1 i)).trans (MQ n i r)
theorem Hv{sel:ae Nat}{n i:Nat}(h:sel.length<=i):eU.go sel n i=n+(i - sel.length):=(ah (eU.go sel n) (uL h).symm).trans (MQ n _ sel)
noncomputable def upd(f:Nat->Nat):ae Nat->ae AO->ae AO->ae AO
 |j::sel,o::r,M=>upd f sel r (bz M j (lq f o))
 |[],r,M=>M++Jc f r
 |_::_,[],M=>M
where Jc (f:Nat->Nat):ae AO->ae AO
 |o::r=>lq f o::Jc f r
 |[]=>[]
theorem sV(f:Nat->Nat):∀l:ae AO,upd.Jc f l=l.map (lq f)
 |[]=>rfl
 |o::r=>ah (lq f o::·) (sV f r)
section
variable(f:Nat->Nat)
theorem HT:∀{sel:ae Nat} {mem M:ae AO},sel.length<=mem.length->(upd f sel mem M).length=M.length+(mem.length - sel.length)
 |[],mem,M=>λ aa=>(ah (λ r=>(M++r).length) (sV f mem)).trans (bj.trans (ah (M.length+·) (bL _)))
 |_::_,[],_=>λ h=>bt h (jc _)
 |j::sel,o::mem,M=>λ h=>(HT (sel:=sel) (mem:=mem) (M:=bz M j (lq f o)) (k_ h)).trans (congr (ah HAdd.hAdd (fJ ..)) (Nat.succ_sub_succ ..).symm)
theorem t2{j:Nat}:∀{sel:ae Nat} {mem M:ae AO},j < M.length->j∉sel->(upd f sel mem M)[j]?=M[j]?
 |[],mem,M=>λ h aa=>dD h
 |_::_,[],_=>λ aa aa=>rfl
 |k::sel,o::mem,M=>λ h n=>(t2 (sel:=sel) (mem:=mem) (M:=bz M k (lq f o)) (io h (fJ ..).symm) λ m=>n (.tail _ m)).trans
   ((eL ..).symm.trans ((dV λ(e:j=k)=>n (e▸ .head _)).trans (eL ..)))
theorem HV{ao:AO}{j:Nat}:∀{sel:ae Nat} {mem M:ae AO} {i:Nat},sel.Nodup->(∀j∈sel,j < M.length)->sel[i]?=af j->mem[i]?=af ao->(upd f sel mem M)[j]?=af (lq f ao)
 |[],_,_,_=>λ aa aa h=>cu h
 |_::_,[],_,_=>λ aa aa aa h=>cu h
 |k::sel,o::mem,M,0=>λ hn hb h1 h2=>have e:k=j:=am h1; (t2 f (sel:=sel) (mem:=mem) (M:=bz M k (lq f o)) (io (e▸hb k (.head _)) (fJ ..).symm) (e▸(dU.mp hn).1)).trans
   ((eL ..).symm.trans (e▸(iV (hb k (.head _))).trans (ah (λ o=>af (lq f o)) (am h2))))
 |k::sel,o::mem,M,i+1=>λ hn hb h1 h2=>HV (sel:=sel) (mem:=mem) (M:=bz M k (lq f o)) (i:=i) (dU.mp hn).2 (λ j hj=>io (hb j (.tail _ hj)) (fJ ..).symm) h1 h2
theorem HU{i:Nat}:∀{sel:ae Nat} {mem M:ae AO},sel.length<=mem.length->(upd f sel mem M)[M.length+i]?=(mem[sel.length+i]?).map (lq f)
 |[],mem,M=>λ aa=>by
  show(M++upd.Jc f mem)[M.length+i]?=_
  rw[sV,eP (bq _ _),hO,eQ,List.length_nil,fy]
 |_::_,[],_=>λ h=>bt h (jc _)
 |k::sel,o::mem,M=>λ h=>(ah (λ n=>(upd f sel mem (bz M k (lq f o)))[n+i]?) (fJ ..).symm).trans ((HU (sel:=sel) (mem:=mem) (M:=bz M k (lq f o)) (k_ h)).trans
   (ah (λ n=>((o::mem)[n]?).map (lq f)) (cV sel.length i 1)))
end
noncomputable def xZ(ρ:ae au)(sel:ae Nat):ae au:=sel.filterMap λ j=>ρ[j]?
theorem Ko{ρ:ae au}{j:Nat}{sel:ae Nat}{a:au}(h:ρ[j]?=af a):xZ ρ (j::sel)=a::xZ ρ sel:=jT h
theorem zN{ρ:ae au}:∀{sel:ae Nat},(∀j∈sel,j < ρ.length)->(xZ ρ sel).length=sel.length/\∀i:Nat,(xZ ρ sel)[i]?=(sel[i]?).bind λ j=>ρ[j]?
 |[],_=>⟨rfl,λ i=>rfl⟩
 |j::sel,h=>by
  have z:=zN (ρ:=ρ) (sel:=sel) λ k hk=>h k (.tail _ hk)
  refine(oP (h j (.head _))).elim λ a e=>?_
  rw[Ko e]
  refine⟨ah (·+1) z.1,λ i=>?_⟩
  rcases i with _|i
  ·exact e.symm
  ·exact z.2 i
theorem EK{G:BM}{ρ:ae au}{s s':ar}{M:ae AO}{K:AV->ae AO->Prop}{v:ak}{sel:ae Nat}(R:RM G ρ M s.heap)(vA:sel.Nodup)(al:(xZ ρ sel).length=sel.length)(inb:∀j∈sel,j < M.length)
  (r1:∀{i j:Nat},sel[i]?=af j->eU sel M.length i=j) (Kk:∀{i j:Nat},sel[i]?=af j->(xZ ρ sel)[i]?=ρ[j]?) (uq:∀{j k:Nat} {a:au},ρ[j]?=af a->ρ[k]?=af a->j=k) (sub:∀a∈xZ ρ sel,∃j∈sel,ρ[j]?=af a) (Q9:∀a∈xZ ρ sel,a∈ρ):
  WQ G (xZ ρ sel) s K v s'->WQ G ρ s (λ av M'=>∃pj mem',K pj mem'/\av=ew (eU sel M.length) pj/\M'=upd (eU sel M.length) sel mem' M/\sel.length<=mem'.length) v s':=by
 rintro ⟨G',c8,av,mem',⟨g,⟨τ,rfl⟩,dS,va,hk⟩,kp,nw,gf,gz⟩
 have hl:=dS.len
 rw[bj,al] at hl
 have hl1:sel.length<=mem'.length:=hl▸bq _ _
 have off:∀{i},sel.length<=i->eU sel M.length i=M.length+(i - sel.length):=Hv
 have left:∀{i},i < sel.length->(xZ ρ sel++τ)[i]?=(xZ ρ sel)[i]?:=λ hi=>dD (al.symm▸hi)
 have right:∀{d:Nat},(xZ ρ sel++τ)[sel.length+d]?=τ[d]?:=λ{d}=>(eP (al.symm▸bq _ _)).trans (ah (τ[·]?) (al.symm▸hO ..))
 have right':∀{d:Nat},(ρ++τ)[M.length+d]?=τ[d]?:=λ{d}=>(eP (R.len.symm▸bq _ _)).trans (ah (τ[·]?) (R.len.symm▸hO ..))
 have fwd:∀(i:Nat) (a:au),(xZ ρ sel++τ)[i]?=af a->(ρ++τ)[eU sel M.length i]?=af a:=λ i a e=>
  (D3 i sel.length).elim (λ hi=>(oP hi).elim λ j hj=>(r1 hj).symm▸Ext.get ⟨τ,rfl⟩ ((Kk hj).symm.trans ((left hi).symm.trans e)))
   λ hi=>(off hi).symm▸right'.trans (right.symm.trans ((ah ((xZ ρ sel++τ)[·]?) (uL hi)).trans e))
 have nd:=gS.mp dS.nd
 have tn:∀a∈τ,s.heap.get? a=none:=λ a ha=>(nw a (cD _ ha)).elim (λ q=>bt rfl (nd.2.2 a q a ha)) id
 have aa0:∀a∈ρ,G' a=none:=λ a ha=>none_of λ o e=>(gf a o e).elim (dh (R.fr a ha)) λ q=>(R.some_of ha).elim λ aa=>dh q
 have old:∀{j a ao},ρ[j]?=af a->j < M.length->(upd (eU sel M.length) sel mem' M)[j]?=af ao->∃o,s'.heap.get? a=af o/\OR G' (ρ++τ) ao o:=λ{j a ao} hj hjl e=>
  (d5 (j∈sel)).elim (λ hs=>(l4 hs).elim λ i hi=>(oP (fj (jr hi) hl1)).elim λ x hx=>
    am ((HV _ vA inb hi hx).symm.trans e)▸(dS.obj i a x ((left (jr hi)).trans ((Kk hi).trans hj)) hx).imp λ aa=> .imp_right (OR.eU fwd))
   λ hs=>(R.obj j a ao hj ((t2 _ hjl hs).symm.trans e)).imp λ o=> .imp (kp a o λ hm=>(sub a hm).elim λ k hk=>hs (uq hj hk.2▸hk.1)) (OR.up g ⟨τ,rfl⟩)
 have new:∀{d a ao},τ[d]?=af a->(upd (eU sel M.length) sel mem' M)[M.length+d]?=af ao->∃o,s'.heap.get? a=af o/\OR G' (ρ++τ) ao o:=λ{d a ao} hj e=>
  (eK.mp ((HU _ hl1).symm.trans e)).elim λ x hx=>hx.2▸(dS.obj _ a x (right.trans hj) hx.1).imp λ aa=> .imp_right (OR.eU fwd)
 exact⟨G',ρ++τ,ew (eU sel M.length) av,upd (eU sel M.length) sel mem' M,⟨g,⟨τ,rfl⟩,⟨dS.kg,by rw[HT _ hl1,bj,R.len,← hl,hO],
   λ j a ao hj e=>(D3 j M.length).elim (λ hl=>old ((dD (R.len.symm▸hl)).symm.trans hj) hl e) λ hl=>have z:=uL hl; new (right'.symm.trans ((ah ((ρ++τ)[·]?) z).trans hj)) ((ah ((upd (eU sel M.length) sel mem' M)[·]?) z).trans e),
   gS.mpr ⟨R.nd,nd.2.1,λ a ha b hb e=>(R.some_of ha).elim λ aa=>dh (tn a (e▸hb))⟩,λ a ha=>(fQ.mp ha).elim (aa0 a) λ ha=>dS.fr a (cD _ ha)⟩,va.eU fwd,av,mem',hk,rfl,rfl,hl1⟩,
  λ a o n e=>kp a o (λ hm'=>n (Q9 a hm')) e,λ a ha=>(fQ.mp ha).imp_right (tn a),gf,gz⟩
theorem yO{P:cC}{f:au}{dx:ae AV}{mem:ae AO}{K:AV->ae AO->Prop}(Rp:ae au->Prop)(ab9:∀(A:bn) (G:BM) (ρ:ae au) (s:ar) (vs:ae ak),Rp ρ->mE A P.d->P.Φ G->RM G ρ mem s.heap->bJ G ρ dx vs->
  dP P.j (aE P.prog P.w) A (.call (.ref f) ⟨vs,[]⟩) (Hk (WQ G ρ s K)) s) (sel:ae Nat) (M:ae AO) (vA:sel.Nodup) (len:sel.length=mem.length)
  (hm:∀(i:Nat) (j:Nat) (ao:AO),sel[i]?=af j->mem[i]?=af ao->M[j]?=af (lq (eU sel M.length) ao)) (A:bn) (G:BM) (ρ:ae au) (s:ar) (vs:ae ak) (hR:Rp (xZ ρ sel)) (room:mE A P.d) (i8:P.Φ G) (R:RM G ρ M s.heap) (hv:bJ G ρ (eu (eU sel M.length) dx) vs):
  dP P.j (aE P.prog P.w) A (.call (.ref f) ⟨vs,[]⟩) (Hk (WQ G ρ s λ av M'=>∃pj mem',K pj mem'/\av=ew (eU sel M.length) pj/\M'=upd (eU sel M.length) sel mem' M/\sel.length<=mem'.length)) s:=by
 have inb:∀j∈sel,j < M.length:=λ j hj=>(l4 hj).elim λ i hi=>(oP (len▸jr hi)).elim λ aa e=>jr (hm i j _ hi e)
 have ag:=zN (ρ:=ρ) λ j hj=>R.len▸inb j hj
 have r1:∀{i j},sel[i]?=af j->eU sel M.length i=j:=λ{i j}=>MS sel _ i j
 have Kk:∀{i j},sel[i]?=af j->(xZ ρ sel)[i]?=ρ[j]?:=λ{i j} h=>(ag.2 i).trans (ah (Option.bind · λ j=>ρ[j]?) h)
 have back:∀(i:Nat) (a:au),ρ[eU sel M.length i]?=af a->(xZ ρ sel)[i]?=af a:=λ i a e=>
  (D3 i sel.length).elim (λ hi=>(oP hi).elim λ j hj=>(Kk hj).trans (r1 hj▸e)) λ hi=>bt (jr e) (Nat.not_lt.mpr (aG (aU R.len) (aG (bq _ _) (aU (Hv (n:=M.length) hi).symm))))
 have sub:∀a∈xZ ρ sel,∃j∈sel,ρ[j]?=af a:=λ a ha=>Jt.mp ha
 have Q9:∀a∈xZ ρ sel,a∈ρ:=λ a ha=>(sub a ha).elim λ aa h=>im h.2
 have uq:∀{j k a},ρ[j]?=af a->ρ[k]?=af a->j=k:=λ{j k a} h1 h2=>(nY (jr h1) R.nd).mp (h1.trans h2.symm)
 have R₀:RM G (xZ ρ sel) mem s.heap:=
  ⟨R.kg,ag.1.trans len,λ i a ao hi e=>(oP (len.symm▸jr e)).elim λ j hj=>(R.obj j a _ ((Kk hj).symm.trans hi) (hm i j ao hj e)).imp λ aa=> .imp_right (OR.lL back),
   List.Pairwise.filterMap (R:=(·≠·)) (S:=(·≠·)) (λ j=>ρ[j]?) (λ j k hjk a ha b hb (e:a=b)=>hjk (uq ha (Eq.trans hb (ah af e.symm)))) vA,λ a ha=>R.fr a (Q9 a ha)⟩
 exact X.el (ab9 A G (xZ ρ sel) s vs hR room i8 R₀ (bJ.lL back _ hv)) (oq λ v s'=>EK R vA ag.1 inb r1 Kk uq sub Q9)
theorem WC.B6{P:cC}{f:au}{dx:ae AV}{mem:ae AO}{K:AV->ae AO->Prop}(h:WC P f dx mem K)(sel:ae Nat)(M:ae AO)(vA:sel.Nodup)(len:sel.length=mem.length)
  (hm:∀(i:Nat) (j:Nat) (ao:AO),sel[i]?=af j->mem[i]?=af ao->M[j]?=af (lq (eU sel M.length) ao)):
  WC P f (eu (eU sel M.length) dx) M (λ av M'=>∃pj mem',K pj mem'/\av=ew (eU sel M.length) pj/\M'=upd (eU sel M.length) sel mem' M/\sel.length<=mem'.length):=
 ⟨λ A G ρ s vs room i8 R hv=>yO (λ aa=>True) (λ A G ρ s vs aa room i8 R hv=>h.run A G ρ s vs room i8 R hv) sel M vA len hm A G ρ s vs trivial room i8 R hv⟩
section
variable(ko:bI->aq dJ){x:bI}{v:ak}
theorem yB:∀{b:ae (bI×ak)} (m:bI->aq ak),x∉b.map (·.1)->bindL ko b m x=m x
 |[],_=>λ aa=>rfl
 |(n,w)::r,m=>λ h=>(yB _ λ z=>h (.tail _ z)).trans (by
  split
  ·exact bC λ(e:x=n)=>h (e▸ .head _)
  ·rfl)
theorem yA:∀{b:ae (bI×ak)} (m:bI->aq ak),x∉b.map (·.1)->bindC ko b m x=m x
 |[],_=>λ aa=>rfl
 |(n,w)::r,m=>λ h=>(yA _ λ z=>h (.tail _ z)).trans (by
  split
  ·rfl
  ·exact bC λ(e:x=n)=>h (e▸ .head _))
theorem we(hk:ko x=af .local):∀{b:ae (bI×ak)} (m:bI->aq ak),(b.map (·.1)).Nodup->(x,v)∈b->bindL ko b m x=af v
 |[],_=>λ aa h=>bt h bK
 |(n,u)::r,m=>λ hn h=>have hn:=dU.mp hn; (bQ.mp h).elim
  (λ e=>by cases e; exact(yB ko _ hn.1).trans ((congrFun (dq hk) x).trans (dq rfl))) λ h=>we hk (b:=r) _ hn.2 h
theorem BS(hk:ko x=af .cell):∀{b:ae (bI×ak)} (m:bI->aq ak),(b.map (·.1)).Nodup->(x,v)∈b->bindC ko b m x=af v
 |[],_=>λ aa h=>bt h bK
 |(n,u)::r,m=>λ hn h=>have hn:=dU.mp hn; (bQ.mp h).elim
  (λ e=>by cases e; exact(yA ko _ hn.1).trans ((congrFun (bC λ(z:ko x=af .local)=>nomatch hk.symm.trans z) x).trans (dq rfl))) λ h=>BS hk (b:=r) _ hn.2 h
end
noncomputable def fdO(o:Obj):dR:=match o.data with
 | .func fd=>fd
 |_=>default
noncomputable def fdOf(K:eI)(f:au):dR:=match K.lookup f with
 |some o=>fdO o
 |none=>default
structure JR(P:cC)(ct:Ct)(xs:ae bI)(dv:ae ak)(body:ae f0)(fd:dR)(gb:aC:=false):Prop where
 body:fd.body= .stmts body
 scope:fd.scope.names=ct.names
 kind:fd.scope.kind= .function
 gen:fd.scope.isGenerator=gb
 co:fd.scope.isCoroutine=false
 TL:fd.closure=[]
 glob:fd.globals=dk
 blt:fd.builtins=la
 code:codeIn P.K fd.code fd.qualname=true
 cq:ct.cq=true->fd.code= .ref wi/\fd.qualname="scan_conditioning"/\kH P.K=true
 bind:∀(s:ar) (vals:ae ak),P.K.In s.heap->vals.length+dv.length=xs.length->mS s fd ⟨vals,[]⟩ (xs.zip (vals++dv))
 names:ct.aS.Nodup
 pre:∃r,ct.aS=xs++r
 kinds:∀x∈xs,ct.names.lookup x=af .local\/ct.names.lookup x=af .cell
structure FnAt(P:cC)(ct:Ct)(f:au)(xs:ae bI)(dv:ae ak)(body:ae f0):Prop where
 it:∃oc od Y9,P.K.lookup f=af (⟨oc,od, .func (fdOf P.K f),Y9⟩:Obj)
 fd:JR P ct xs dv body (fdOf P.K f)
noncomputable def fill:ae bI->ae AV->ae AV
 |_::r,v::vs=>v::fill r vs
 |_::r,[]=> .undef::fill r []
 |[],_=>[]
theorem wq{v:AV}(n:v≠ .undef):∀{aS:ae bI} {vs:ae AV} {i:Nat},(fill aS vs)[i]?=af v->vs[i]?=af v
 |_::r,w::vs,0=>id
 |_::r,w::vs,i+1=>wq n (aS:=r) (vs:=vs) (i:=i)
 |_::r,[],0=>λ h=>bt (am h).symm n
 |_::r,[],i+1=>wq n (aS:=r) (vs:=[]) (i:=i)
 |[],vs,i=>cu
theorem room_in{a c d k e:Nat}(h:a+(c * d+c) < k)(he:e<=c):a+e+c * d < k:=aT (aG (aU (cV ..)) (aG (hH he _) (aU (Nat.add_assoc ..)))) h
theorem mE.deeper{A:bn}{d:Nat}(room:mE A (d+1)){env:Env}:mE (A.deeper env) d:=⟨room_in (e:=1) room.1 (by decide),room_in (e:=3) room.2.1 (by decide),room.2.2⟩
def iE(K:AV->ae AO->Prop)(f:Fl)(σ:St):Prop:=match f with
 | .ret v=>K v σ.mem
 | .d8=>K .none σ.mem
section
variable{A:bn}{env:Env}{ro:aC}{G:BM}{ρ:ae au}{mem:ae AO}{s s₁:ar}{aS xs rest:ae bI}{locs as:ae AV}{us:ae ak}{x:bI}{v:AV}{u:ak}{i:Nat}
theorem RM.AT{P:cC}{h:Heap}{Q:Prop}(R:RM G ρ mem h)(i8:P.Φ G)(k:∀B p loose mg mb,P.K.In B->nZ p loose mg mb B->(∀a o,B.get? a=af o->h.get? a=af o)->Q):Q:=
 (P.base G i8).elim λ B h=>h.elim λ p h=>h.elim λ l h=>h.elim λ mg h=>h.elim λ mb h=>k B p l mg mb h.1 h.2.1 λ a o e=>R.kg a o (h.2.2 a o e)
theorem RM.out{h:Heap}(R:RM G ρ mem h){a:au}(ha:h.get? a=none):a∉ρ:=λ hm=>(R.some_of hm).elim λ aa=>dh ha
theorem Kj(LA:aS=xs++rest)(hl:us.length=xs.length)(hv:bJ G ρ as us)(e:aS[i]?=af x)(e':(fill aS as)[i]?=af v)(n:v≠ .undef):∃u,VR G ρ v u/\(x,u)∈xs.zip us/\x∈xs:=
 (hv.get (wq n e')).elim λ u z=>have q:xs[i]?=af x:=(dD (io (jr z.1) hl)).symm.trans (LA▸e)
  ⟨u,z.2,dB (i:=i) (List.getElem?_zip_eq_some.mpr ⟨q,z.1⟩),dB q⟩
theorem Tt{bs:ae (bI×ak)}(ic:InCallC s env.locals (bindL env.kindOf bs λ aa=>none) env.cells (bindC env.kindOf bs λ aa=>none) s₁)(hn:(bs.map (·.1)).Nodup)(hm:(x,u)∈bs)(hc:env.kindOf x=af .cell->∃c,env.cells.lookup x=af c)
  (hk:env.kindOf x=af .local\/env.kindOf x=af .cell):At env s₁.heap x u:=
 hk.imp (λ q=>⟨q,_,ic.toInCall.ns,we _ q _ hn hm⟩) λ q=>⟨.inl q,(hc q).imp λ c e=>⟨e,BS _ q (λ aa=>none) hn hm▸ic.cell x c e⟩⟩
theorem RF.first(R:RM G ρ mem s.heap)(kp:∀a o,s.heap.get? a=af o->s₁.heap.get? a=af o)(dead:s.heap.get? env.locals=none)(ns:∃m,s₁.heap.Ns env.locals m)
  (cell:∀x c,env.cells.lookup x=af c->c≠env.locals/\c∉ρ/\(∃v,s₁.heap.IsCell c v)/\(env.kindOf x=af .cell->G c=none)) (p6:∀x y c,env.cells.lookup x=af c->env.cells.lookup y=af c->x=y)
  (loc:∀(i:Nat) (x:bI) (v:AV),aS[i]?=af x->locs[i]?=af v->v≠ .undef->∃u,VR G ρ v u/\At env s₁.heap x u) (z:GZ s s₁):RF ⟨A,env,s.heap,ρ,G,s,ro⟩ aS G ρ ⟨locs,mem⟩ s₁:=
 ⟨R.keeps kp,ns,loc,R.yt dead,R.out dead,cell,p6,λ a o aa aa e=>kp a o e,λ a o e=>⟨o,kp a o e⟩,Ext.refl _,λ aa h=> .inl h,dG.refl _,λ aa aa e=> .inl e,z⟩
theorem RF.leave{G':BM}{ρ':ae au}{σ:St}{s':ar}{K:AV->ae AO->Prop}(dead:s.heap.get? env.locals=none)(cd:∀x c,env.cells.lookup x=af c->env.kindOf x=af .cell->ro=false->s.heap.get? c=none)(g:dG G G')(x:Ext ρ ρ')
  (R:RF ⟨A,env,s.heap,ρ,G,s,ro⟩ aS G' ρ' σ s') (va:VR G' ρ' v u) (k:K v σ.mem):WQ G ρ s K u s':=
 ⟨G',ρ',v,σ.mem,⟨g,x,R.rm,va,k⟩,λ a o n e=>R.keep a o n ⟨λ z=>dh dead (z▸e),λ hr y hy hc=>dh (cd y a hc hy hr) e⟩ e,R.nw,R.Bh,R.gz⟩
end
theorem WC.fn1{P:cC}{ct:Ct}{f:au}{xs:ae bI}{dv:ae ak}{da:ae AV}{b:SS P ct}{dx:ae AV}{mem:ae AO}{K:AV->ae AO->Prop}{fd:dR}{o:Obj}{A:bn}{G:BM}{ρ:ae au}{s:ar}{vs:ae ak}(D:JR P ct xs dv b.bA fd)
  (ho:s.heap.get? f=af o) (hf:o.data= .func fd) (hK:P.K.In s.heap) (lim:s.heap.NoLimit) (hd:bJ G ρ da dv) (ch:b.ch=true) (hl:dx.length+dv.length=xs.length) (h:b.run ⟨fill ct.aS (dx++da),mem⟩ (iE K)) (LB:ct.tb=true->ρ[0]?=af dM)
  (room:mE A (P.d+1)) (i8:P.Φ G) (R:RM G ρ mem s.heap) (hv:bJ G ρ dx vs):dP P.j (aE P.prog P.w) A (.call (.ref f) ⟨vs,[]⟩) (Hk (WQ G ρ s K)) s:=by
 have hb:vs.length+dv.length=xs.length:=hv.length▸hl
 have hus:(vs++dv).length=xs.length:=bj.trans hb
 have Lw:(xs.zip (vs++dv)).map (·.1)=xs:=hF (aU hus.symm)
 have ok:∀(x:bI),ct.names.lookup x=af .cell->((cellsFrom (s.heap.objs.size+1) fd.scope.names []).lookup x).isSome=true:=λ x q=>cellsFrom_some _ _ _ (.inl (D.scope▸q))
 refine X.KB (aT (bq _ _) (b_ room.1 (by decide))) ho hf lim (codeRec_of hK D.code) D.body (D.bind s vs hK hb) D.TL
  (λ x hx=>(D.kinds x.1 (Lw▸g9 hx)).imp (D.scope▸id) λ q=>⟨D.scope▸q,ok _ q⟩) D.co D.gen D.kind λ s₁ ic=>?_
 have dead:∀a,s.heap.objs.size<=a->s.heap.get? a=none:=λ a=>df
 have up:∀x c,(eD fd s.heap.objs.size f).cells.lookup x=af c->s.heap.objs.size < c:=λ x c e=>ic.above x c (mem_of_lookup e)
 have hk:∀x,(eD fd s.heap.objs.size f).kindOf x=ct.names.lookup x:=λ x=>ah (·.lookup x) D.scope
 have ce:∀x,(eD fd s.heap.objs.size f).kindOf x=af .cell->∃c,(eD fd s.heap.objs.size f).cells.lookup x=af c:=λ x q=>jv.mp (ok x (hk x▸q))
 refine X.mono (b.ok ch ⟨A.deeper (eD fd s.heap.objs.size f),eD fd s.heap.objs.size f,s.heap,ρ,G,s,ct.ro⟩ G ρ _ s₁ (iE K)
  {kind:=D.kind,names:=D.scope,glob:=D.glob,blt:=D.blt,i8:=i8,vA:=D.names,ro:=rfl,cells:=λ x q=>ce x (hk x▸q),tb:=LB,room:=room.deeper
   cq:=λ e=>have q:=D.cq e; ⟨q.1,ah (λ q:bI=>q++bT ".<locals>.") q.2.1,q.2.2⟩}
  (RF.first R ic.toInCall.keep (dead _ (cF _)) ⟨_,ic.toInCall.ns⟩ (λ x c e=>have u:=up x c e; have d:=dead c (eX u); ⟨uO u,R.out d,⟨_,ic.cell x c e⟩,λ aa=>R.yt d⟩)
   (λ x y c e e'=>name_of_addr ic.apart (mem_of_lookup e) (mem_of_lookup e')) (λ i x v e e' n=>D.pre.elim λ r hp=>(Kj hp hus (hv.append hd) e e' n).imp λ u z=>
    ⟨z.1,Tt ic (Lw.symm▸(gS.mp (hp▸D.names)).1) z.2.1 (ce x) (hk x▸D.kinds x z.2.2)⟩) (ic.done.elim λ h' q=>q.elim λ tk q=>q.1▸GZ.of ⟨rfl,rfl,rfl⟩)) h) λ fl s' z=>z.u λ G' ρ' fl' b7 g x R' fr hk=>?_
 have lv:=RF.leave (K:=K) (v:=match fl' with | .ret v=>v | .d8=> .none) (u:=match fl with | .ret v=>v|_=> .none) (dead _ (cF _)) (λ x c e aa aa=>dead c (eX (up x c e))) g x R'
 rcases fl' with _|v
 ·cases(show fl= .next from fr)
  exact lv VR.none_ hk
 ·obtain⟨u,rfl,vu⟩:=fr
  exact lv vu hk
section
variable{P:cC}{ct:Ct}{f:au}{xs:ae bI}{dv:ae ak}{da:ae AV}{b:SS P ct}{dx:ae AV}{mem:ae AO}{K K':AV->ae AO->Prop}
theorem WC.fn0(H:FnAt P ct f xs dv b.bA)(hd:∀G ρ,bJ G ρ da dv)(ch:b.ch=true)(hl:dx.length+dv.length=xs.length)(h:b.run ⟨fill ct.aS (dx++da),mem⟩ (iE K))(A:bn)(G:BM)(ρ:ae au)(s:ar)(vs:ae ak)
  (LB:ct.tb=true->ρ[0]?=af dM) (room:mE A P.up.d) (i8:P.up.Φ G) (R:RM G ρ mem s.heap) (hv:bJ G ρ dx vs):dP P.j (aE P.prog P.w) A (.call (.ref f) ⟨vs,[]⟩) (Hk (WQ G ρ s K)) s:=
 R.AT (P:=P) i8 λ aa aa aa aa aa b1 b2 b3=>have hK:=b1.keeps b3; H.it.elim λ aa k=>k.elim λ aa k=>k.elim λ aa k=>WC.fn1 H.fd (hK _ _ k) rfl hK (b2.nolimit.keeps b3) (hd G ρ) ch hl h LB room i8 R hv
theorem WC.fn(H:FnAt P ct f xs dv b.bA)(hd:∀G ρ,bJ G ρ da dv)(ch:b.ch=true)(LB:ct.tb=false)(hl:dx.length+dv.length=xs.length)(h:b.run ⟨fill ct.aS (dx++da),mem⟩ (iE K)):WC P.up f dx mem K:=
 ⟨λ A G ρ s vs=>WC.fn0 H hd ch hl h A G ρ s vs λ e=>ay (LB.symm.trans e)⟩
structure pg(P:cC)(f:au)(dx:ae AV)(mem:ae AO)(K:AV->ae AO->Prop):Prop where
 run:∀(A:bn) (G:BM) (ρ:ae au) (s:ar) (vs:ae ak),ρ[0]?=af dM->mE A P.d->P.Φ G->RM G ρ mem s.heap->bJ G ρ dx vs->
  dP P.j (aE P.prog P.w) A (.call (.ref f) ⟨vs,[]⟩) (Hk (WQ G ρ s K)) s
theorem pg.fn(H:FnAt P ct f xs dv b.bA)(hd:∀G ρ,bJ G ρ da dv)(ch:b.ch=true)(hl:dx.length+dv.length=xs.length)(h:b.run ⟨fill ct.aS (dx++da),mem⟩ (iE K)):pg P.up f dx mem K:=
 ⟨λ A G ρ s vs ht=>WC.fn0 H hd ch hl h A G ρ s vs λ aa=>ht⟩
theorem pg.mono(h:pg P f dx mem K)(k:∀a m,K a m->K' a m):pg P f dx mem K':=
 ⟨λ A G ρ s vs t r p m v=>X.el (h.run A G ρ s vs t r p m v) (oq λ aa aa=>WQ.mono k)⟩
theorem pg.B6(h:pg P f dx mem K)(sel:ae Nat)(M:ae AO)(h0:sel[0]?=af 0)(vA:sel.Nodup)(len:sel.length=mem.length)
  (hm:∀(i:Nat) (j:Nat) (ao:AO),sel[i]?=af j->mem[i]?=af ao->M[j]?=af (lq (eU sel M.length) ao)):
  pg P f (eu (eU sel M.length) dx) M (λ av M'=>∃pj mem',K pj mem'/\av=ew (eU sel M.length) pj/\M'=upd (eU sel M.length) sel mem' M/\sel.length<=mem'.length):=
 ⟨λ A G ρ s vs t room i8 R hv=>yO (λ ρ=>ρ[0]?=af dM) (λ A G ρ s vs t room i8 R hv=>h.run A G ρ s vs t room i8 R hv) sel M vA len hm A G ρ s vs
  (((zN (ρ:=ρ) (sel:=sel) λ j hj=>(l4 hj).elim λ i hi=>(oP (len▸jr hi)).elim λ aa e=>R.len▸jr (hm i j _ hi e)).2 0).trans ((ah (Option.bind · λ j=>ρ[j]?) h0).trans t)) room i8 R hv⟩
end
section
variable{P:cC}{ct:Ct}
theorem Aj{M:ir}{a:au}(h:Heap)(X:∃o fd,h.get? a=af o/\o.data= .func fd):∃k,(k=A5\/k=xF\/k=tf)/\Looks M h (keeperOf (.ref a)) k:=by
 obtain⟨o,fd,ho,hd⟩:=X
 refine⟨.frame, .inl rfl,λ A Q E s k q=>?_⟩
 unfold keeperOf
 dsimp only
 refine aj (iR (k _ _ ho) ?_)
 rw[hd]
 exact aw q
theorem Hk.u{K:ak->ar->Prop}{Q:iQ->ar->Prop}{r:iQ}{s:ar}(h:Hk K r s)(k:∀v,K v s->Q (.ok (.ret v)) s):Q r s:=by
 rcases r with _|(_|_|_|v)
 case ok.ret=>exact k v h
 all_goals exact h.elim
theorem WQ.pe{F:Fd}{G:BM}{ρ:ae au}{σ:St}{s s':ar}{v:ak}{Kv:AV->St->Prop}(R:RF F ct.aS G ρ σ s)(z:WQ G ρ s (λ v m'=>Kv v ⟨σ.loc,m'⟩) v s'):PE F ct.aS G ρ Kv v s':=by
 rcases z with⟨G',ρ',av,mem',z,kp,nw,gf,gz⟩
 exact⟨G',ρ',av,⟨σ.loc,mem'⟩,z.1,z.2.1,R.HF z.2.1 z.1 z.2.2.1 nw gf kp gz,z.2.2.2.1,z.2.2.2.2⟩
theorem WC.take{f:au}{dx:ae AV}{F:Fd}{G:BM}{ρ:ae au}{σ:St}{s:ar}{vs:ae ak}{Kv:AV->St->Prop}(O:gM P ct F)(R:RF F ct.aS G ρ σ s)(va:bJ G ρ dx vs)
  (h:WC P f dx σ.mem λ v m'=>Kv v ⟨σ.loc,m'⟩):WP P F.A (call (.ref f) vs []) (PE F ct.aS G ρ Kv) s:=
 X.calls (X.el (h.run F.A G ρ s vs O.room (R.i8 O) R.rm va) λ r s' z=>z.u (Q:=λ r s'=>match r with | .ok (.ret v)=>PE F ct.aS G ρ Kv v s'|_=>False) λ v z=>z.pe R)
def Y8(a:AV)(K:au->Prop):Prop:=match a with
 | .fn g=>K g
 |_=>False
theorem Vd{a:AV}{K:au->Prop}(h:Y8 a K):∃f,a= .fn f/\K f:=by
 rcases a with _|_|_|_|_|_|_|f|_|_|_|_|_|_|_|_|_|_
 case fn=>exact⟨f,rfl,h⟩
 all_goals exact h.elim
def sP{α:Type}(o:aq α)(K:α->Prop):Prop:=match o with
 |some x=>K x
 |none=>False
theorem sP.u{α:Type}{o:aq α}{K:α->Prop}{Q:Prop}(h:sP o K)(k:∀x,o=af x->K x->Q):Q:=by
 rcases o with _|x
 ·exact h.elim
 ·exact k x rfl h
theorem qC{α:Type}{o:aq α}{x:α}{K:α->Prop}(e:o=af x)(k:K x):sP o K:=e▸k
noncomputable def Vh(s:AS)(outs:ae (TV×ae TO)):ae (TV×AS):=outs.map λ o=>(o.1,⟨s.loc,o.2⟩)
theorem cC.Sa(P:cC):P.dn.Le P:=⟨rfl,rfl,Nat.sub_le _ _, .inr rfl,λ aa h=>h⟩
theorem DW.d2{g:au}{vs:ae AV}{s:AS}{σ:St}{outs:ae (TV×ae TO)}(h:DW P.dn g vs σ.mem outs)(gs:GS s σ):D2 (λ K=>WC P g vs σ.mem λ v m'=>K v ⟨σ.loc,m'⟩) GV (Vh s outs):=
 h.imp λ v h=>h.elim λ m' h=>⟨⟨σ.loc,m'⟩,h.1.elim λ o q=>⟨_,dN.mpr ⟨o,q.1,rfl⟩,q.2.1,gs.loc,q.2.2⟩,λ K k=>(h.2.up P.Sa).mono λ a m z=>z.1▸z.2▸k⟩
section
variable{F:Fd}{G:BM}{ρ:ae au}{σ:St}{s:ar}{Q:ak->ar->Prop}
theorem Hd(f:SE P ct)(as:SL P ct){cp:c9}(hf:∃x q,f.bA= .Name x q)(cf:f.ch=true)(ca:as.ch=true)(O:gM P ct F)(R:RF F ct.aS G ρ σ s){Kn:AV->St->Prop}(h:f.run σ Kn)
  (k:∀dW c8 a aI u s₁,dG G dW->Ext ρ c8->RF F ct.aS dW c8 aI s₁->VR dW c8 a u->Kn a aI->cL P.j (aE P.prog P.w) F.A (callWith cp u [] (backTo cp (fB as.bA F.env)) []) Q s₁):cL P.j (aE P.prog P.w) F.A (eval (.Call f.bA as.bA [] cp) F.env) Q s:=
 hf.elim λ x hf=>hf.elim λ q hf=>(ah (λ n=>cL P.j (aE P.prog P.w) F.A (eval (.Call n as.bA [] cp) F.env) Q s) hf).mpr (X.pX (X.mono (hf▸f.ok cf F G ρ σ s _ O R h) λ u s₁ z=>z.u λ dW c8 a aI fK fh dS va bH=>k dW c8 a aI u s₁ fK fh dS va bH))
theorem zR(f:SE P ct)(as:SL P ct){cp:c9}(hf:∃x q,f.bA= .Name x q)(cf:f.ch=true)(ca:as.ch=true)(O:gM P ct F)(R:RF F ct.aS G ρ σ s){Kc:au->ae AV->St->Prop}(h:f.run σ λ fv aI=>Y8 fv λ g=>as.run aI λ vs aV=>Kc g vs aV)
  (k:∀g dx vs jp g6 aV bp,dG G jp->Ext ρ g6->RF F ct.aS jp g6 aV bp->bJ jp g6 dx vs->Kc g dx aV->cL P.j (aE P.prog P.w) F.A (call (.ref g) vs []) Q bp):cL P.j (aE P.prog P.w) F.A (eval (.Call f.bA as.bA [] cp) F.env) Q s:=
 Hd f as hf cf ca O R h λ dW c8 a aI u s₁ fK fh dS va bH=>by
  obtain⟨g,rfl,bH⟩:=Vd bH
  obtain⟨rfl,o,fd,ho,hd⟩:=va
  exact X.ui (Pm:=λ h=>∃o fd,h.get? g=af o/\o.data= .func fd) (as.plain _ _) Aj (X.mono (as.ok ca F dW c8 aI s₁ _ _ O dS bH) λ vs bp z=>z.u λ jp g6 dx aV jf ju gN q6 w=>⟨⟨o,fd,gN.rm.kg _ _ (jf _ _ ho),hd⟩,k g dx vs jp g6 aV bp (fK.trans jf) (fh.trans ju) gN q6 w⟩)
end
def DN(f:SE P ct)(as:SL P ct)(p:c9):SE P ct where
 bA:= .Call f.bA as.bA [] p
 run:=λ σ K=>f.run σ λ fv aI=>Y8 fv λ g=>as.run aI λ vs aV=>WC P g vs aV.mem λ v m'=>K v ⟨aV.loc,m'⟩
 ch:=isNm f.bA&&(f.ch&&as.ch)
 star:=λ aa aa=>rfl
 ok:=λ c F G ρ σ s Kv O R h=>zR f as (wQ (aF c).1) (aF (aF c).2).1 (aF (aF c).2).2 O R h λ g dx vs jp g6 aV bp le x gN q6 cW=>X.mono (WC.take O gN q6 cW) λ aa aa=>PE.up le x
 ab:=λ s=>bO (f.ab s) λ t s=>ob (tFn t) λ g=>bO (as.ab s) λ vs s=>ob (P.cB g.1 vs s.mem) λ outs=>af (Vh s outs)
 cO:=λ fo s outs h σ gs=>(f.cO fo).bind h gs λ t s l h a σ ga gs=>ob.u h λ g aa h=>(ly ga g.2).symm▸(as.cO fo).bind h gs λ ts s l h vs σ Ut gs=>ob.u h λ outs e h=>am h▸(fo _ _ _ _ e _ _ Ut gs.mem).d2 gs
theorem mE.make{A:bn}{d:Nat}{C:au}{vs:ae ak}(h:mE A d)(hd:1<=d):mE (A.under (.builtin "type.__call__" ⟨.ref C::vs,[]⟩)) (d - 1):=by
 rcases d with _|d
 ·exact bt hd (jc 0)
 ·exact⟨room_in (e:=1) h.1 (by decide),room_in (e:=1) h.2.1 (by decide),h.2.2⟩
noncomputable def Ge:(outs:ae (TV×ae TO))->aq {u:e9 // ∀o∈outs,o.1= .ex .none}
 |[]=>af ⟨(),λ aa h=>nomatch h⟩
 |o::r=>ob (S4 o.1) λ e=>ob (Ge r) λ k=>af ⟨(),aJ.mpr ⟨e.2,k.2⟩⟩
theorem xW.of{K:eI}{C fi:au}(h:xW K C fi=true):makesIn K C=true/\findIn K (.ref C) "__init__"=af (af (.ref fi))/\typeIn K (.ref fi)=af (.type "function")/\keepIn K (.ref C)=true:=
 have a:=aF h
 have b:=aF a.1
 have c:=aF b.1
 ⟨c.1,a4.mp c.2,a4.mp b.2,a.2⟩
theorem Kl{α:Type}{l:ae α}{x:α}{n:Nat}(e:l.length=n):(l++[x])[n]?=af x:=e▸xM
theorem RF.make{F:Fd}{aS:ae bI}{G:BM}{ρ:ae au}{σ:St}{s:ar}(R:RF F aS G ρ σ s)(C:au):∃ρ',Ext ρ ρ'/\VR G ρ' (.own (σ.mem.length+1)) (.ref (s.heap.objs.size+1))/\
  RF F aS G ρ' ⟨σ.loc,σ.mem++[.ns [] [], .inst C σ.mem.length]⟩ {s with heap:=(s.heap.push qL).push (gC C s.heap.objs.size)}:=
 have lD:=R.new (ao:= .ns [] []) (s':={s with heap:=s.heap.push qL}) R.K0 (aN _ rfl) ⟨[],_,[],rfl,⟨rfl,rfl⟩,bJ.nil⟩ (λ b o e=>aA _ e) ⟨rfl,rfl,rfl⟩
 have e:ρ.length=σ.mem.length:=R.rm.len
 have pT:=lD.new (ao:= .inst C σ.mem.length) (s':={s with heap:=(s.heap.push qL).push (gC C s.heap.objs.size)}) lD.K0 (aN _ rfl) ⟨s.heap.objs.size,Ext.get (Ext.snoc _ _) (Kl e),rfl⟩ (λ b o e=>aA _ e) ⟨rfl,rfl,rfl⟩
 ⟨_,(Ext.snoc _ _).trans (Ext.snoc _ _),VR.I5 ((Kl (bj.trans (ah (·+1) e))).trans (ah af (Heap.size_push _ _))),(gR σ.mem [.ns [] []] [.inst C σ.mem.length])▸pT⟩
def adF(C:au)(f:SE P ct)(as:SL P ct)(p:c9):SE P ct where
 bA:= .Call f.bA as.bA [] p
 run:=λ σ K=>f.run σ λ fv aI=>fv= .val (.ref C)/\as.run aI λ vs aV=>sP (P.init C) λ fi=>WC P.dn fi (.own (aV.mem.length+1)::vs) (aV.mem++[.ns [] [], .inst C aV.mem.length]) λ v m'=>v= .none/\K (.own (aV.mem.length+1)) ⟨aV.loc,m'⟩
 ch:=isNm f.bA&&(bB 1 P.d&&(f.ch&&as.ch))
 star:=λ aa aa=>rfl
 ok:=λ c F G ρ σ s Kv O R h=>have hf:=wQ (aF c).1; have c:=(aF c).2; have ca:=aF (aF c).2
  Hd f as hf ca.1 ca.2 O R h λ dW c8 a aI u s₁ fK fh dS va bH=>by
   cases bH.1
   cases eG va
   refine X.ui (Pm:=λ h=>xW P.K C ((P.init C).getD 0)=true/\P.K.In h) (as.plain _ _) (λ h z=>keeps_K (xW.of z.1).2.2.2 _ z.2) (X.mono (as.ok ca.2 F dW c8 aI s₁ _ _ O dS bH.2) λ vs bp z=>z.u λ jp g6 dx aV jf ju gN q6 cW=>cW.u λ fi hfi cW=>?_)
   have mk:=P.EW C fi hfi
   have hK:=gN.K O
   exact⟨⟨hfi.symm▸mk,hK⟩,X.calls (X.make (makes_of hK (xW.of mk).1) (looks_findIn hK (xW.of mk).2.1) (λ self=>bind_fn hK self (xW.of mk).2.2.1) rfl ((gN.make C).elim λ ρ' y=>
    X.el (cW.run _ jp _ _ _ (O.room.make (aQ (aF c).1)) (gN.i8 (P:=P) O) y.2.2.rm (bJ.cons y.2.1 (bJ.up (dG.refl _) y.1 _ q6))) λ r s' z=>z.u (Q:=λ r s'=>match r with | .ok (.ret v)=>v= .none/\PE F ct.aS G ρ Kv (.ref (bp.heap.objs.size+1)) s'|_=>False) λ v z=>(z.pe (Kv:=λ v σ=>v= .none/\Kv (.own (aV.mem.length+1)) σ) y.2.2).u λ G' k9 av b7 g x R' vv q=>
     ⟨(q.1▸vv:VR G' k9 .none v).of_none,G',k9,_,b7,fK.trans (jf.trans g),fh.trans (ju.trans (y.1.trans x)),R',y.2.1.up g x,q.2⟩))⟩
 ab:=λ s=>bO (f.ab s) λ t s=>ob (ade t) λ c=>bE (a_ c.1 C) λ aa=>bO (as.ab s) λ vs s=>ob (P.init C) λ fi=>ob (P.cB fi (.ex (.own (s.mem.length+1))::vs) (s.mem++[.ns [] []]++[.inst C s.mem.length])) λ outs=>
  ob (Ge outs) λ aa=>af (outs.map λ o=>(.ex (.own (s.mem.length+1)),⟨s.loc,o.2⟩))
 cO:=λ fo s outs h σ gs=>(f.cO fo).bind h gs λ t s l h a σ ga gs=>ob.u h λ c aa h=>bE.u h λ hc h=>D2.eq ((as.cO fo).bind (C:=λ vs aV K=>sP (P.init C) λ fi=>WC P.dn fi (.own (aV.mem.length+1)::vs) (aV.mem++[.ns [] [], .inst C aV.mem.length]) λ v m'=>v= .none/\K (.own (aV.mem.length+1)) ⟨aV.loc,m'⟩)
   h gs λ ts s l h vs σ Ut gs=>ob.u h λ fi e1 h=>ob.u h λ outs e h=>ob.u h λ an aa h=>am h▸
   have hl:s.mem.length=σ.mem.length:=gs.mem.len
   have gm:=(gs.mem.app (o:= .ns [] []) (o':= .ns [] []) ⟨[],rfl,rfl⟩ rfl).app (o:= .inst C s.mem.length) (o':= .inst C σ.mem.length) (ah (AO.inst C) hl.symm) rfl
   have gw:AV.own (σ.mem.length+1)= .own (s.mem.length+1):=ah (λ n=>AV.own (n+1)) hl.symm
   (fo _ _ _ _ e (.own (σ.mem.length+1)::vs) _ (dH.cons gw Ut) gm).elim λ v w=>w.elim λ m' w=>w.1.elim λ o q=>⟨.own (σ.mem.length+1),⟨σ.loc,m'⟩,⟨_,dN.mpr ⟨o,q.1,rfl⟩,gw,gs.loc,q.2.2⟩,
    λ K k=>qC e1 ((gR σ.mem [.ns [] []] [.inst C σ.mem.length]▸w.2).mono λ a m z=>⟨z.1.trans (an.2 o q.1▸q.2.1:GV (.ex .none) v),z.2▸k⟩)⟩) λ K k=>⟨(ly ga c.2).trans (ah (λ c=>AV.val (.ref c)) (aL hc)),k⟩
def I0(P:cC)(C:au)(ks:ae Nat)(x:Nat)(K:au->Prop):Prop:=sP (P.tP C x) λ g=>aX (wE ks x) False (K g)
def onM(P:cC)(a:AV)(x:Nat)(mem:ae AO)(K:au->Prop):Prop:=match a with
 | .own p=>C_ mem p λ C aa ks aa=>I0 P C ks x K
 | .inst C ks _=>I0 P C ks x K
 |_=>False
theorem I0.u{C:au}{ks:ae Nat}{x:Nat}{K:au->Prop}{Q:Prop}(h:I0 P C ks x K)(k:∀g,nI P.K C (nm x) g=true->x < NM->wE ks x=false->K g->Q):Q:=sP.u h λ g e h=>by
 have m:=P.Fb _ _ _ e
 cases q:wE ks x with
 |true=>rw[q] at h; exact h.elim
 |false=>rw[q] at h; exact k g m.2 m.1 q h
theorem Ay{C:au}{ks:ae Nat}{x:Nat}{K:au->Prop}{g:au}(e:P.tP C x=af g)(hk:(!wE ks x)=true)(k:K g):I0 P C ks x K:=qC e ((ah (aX · False (K g)) (nb hk)).mpr k)
theorem tK{x:Nat}(hx:x < NM):∀{ks:ae Nat} {es:ae bf} {us:ae ak},wE ks x=false->ue ks es us->getL (nm x) es=af none
 |[],es,us=>λ aa h=>h.u0 (Q:=λ es aa=>getL (nm x) es=af none) rfl
 |k::ks,es,us=>λ h hk=>hk.uc (Q:=λ es aa=>getL (nm x) es=af none) λ hh t u es us kn hk=>by
  have q:k≠x:=λ e=>ay ((ah (aX · true (wE ks x)) (e▸uM k:a_ k x=true)).symm.trans h)
  exact(yV ((Fg kn hx).trans (d_.mpr q))).trans (tK hx ((ah (aX · true (wE ks x)) (Tw q)).symm.trans h) hk)
theorem nI.of{K:eI}{C g:au}{x:bI}(h:nI K C x g=true):plainGet K C x=true/\findIn K (.ref C) x=af (af (.ref g))/\typeIn K (.ref g)=af (.type "function")/\fnIn K g=true:=
 have a:=aF h
 have b:=aF a.1
 have c:=aF b.1
 ⟨c.1,a4.mp c.2,a4.mp b.2,a.2⟩
theorem wO{A:bn}{s:ar}{K:eI}{C x d g:au}{prog:aK}{w:bw}{es:ae bf}{n:Nat}{name:bI}{pl:ie aC}{Q:ak×ae ak->ar->Prop}(X:K.In s.heap)(ok:nI K C name g=true)
  (hx:s.heap.get? x=af (gC C d)) (hd:s.heap.get? d=af (nz es n)) (hl:getL name es=af none) (h:Q (.ref g,[.ref x]) s):aH (aE prog w) A (fG (.ref x) name pl) Q dw s:=
 have m:=nI.of ok
 method_fn X (⟨hx,rfl,rfl,hd⟩:InstAt s.heap x (gC C d) C (af (nz es n))) (plainGet_of m.1).1 (plainGet_of m.1).2 m.2.1 m.2.2.1 (ah (ed λ v:aq ak=>v.isSome) ((lookIn_dict ..).trans hl)) h
theorem VR.Yk{G:BM}{ρ:ae au}{C:au}{ks:ae Nat}{vs:ae AV}{v:ak}{Q:ak->Prop}(h:VR G ρ (.inst C ks vs) v)(k:∀a d es n us,G a=af (gC C d)->G d=af (nz es n)->ue ks es us->bJ G ρ vs us->Q (.ref a)):Q v:=
 aD h λ a h=>h.elim λ d h=>h.elim λ es h=>h.elim λ n h=>h.elim λ us h=>h.1▸k a d es n us h.2.1 h.2.2.1 h.2.2.2.1 h.2.2.2.2
theorem IZ{F:Fd}{G:BM}{ρ:ae au}{σ:St}{s:ar}{a:AV}{u:ak}{x:Nat}{K:au->Prop}{pl:ie aC}{Q:ak×ae ak->ar->Prop}(O:gM P ct F)(R:RF F ct.aS G ρ σ s)(va:VR G ρ a u)(h:onM P a x σ.mem K)
  (hq:∀g,fnIn P.K g=true->K g->Q (.ref g,[u]) s):aH (aE P.prog P.w) F.A (fG u (nm x) pl) Q dw s:=by
 rcases a with _|_|_|_|_|p|_|_|_|_|_|_|_|⟨C,ks,vs⟩|_|_|_|_
 case own=>exact C_.u h λ C j ks vs e1 e2 h=>h.u λ g ok xl hk h=>R.UA va e1 e2 (Q:=λ u=>(∀g,fnIn P.K g=true->K g->Q (.ref g,[u]) s)->aH (aE P.prog P.w) F.A (fG u (nm x) pl) Q dw s) (λ a d es n us h1 aa h3 h4 aa hq=>wO (R.K O) ok h1 h3 (tK xl hk h4) (hq g (nI.of ok).2.2.2 h)) hq
 case inst=>exact I0.u h λ g ok xl hk h=>va.Yk (Q:=λ u=>(∀g,fnIn P.K g=true->K g->Q (.ref g,[u]) s)->aH (aE P.prog P.w) F.A (fG u (nm x) pl) Q dw s) (λ a d es n us h1 h3 h4 aa hq=>wO (R.K O) ok (R.rm.kg _ _ h1) (R.rm.kg _ _ h3) (tK xl hk h4) (hq g (nI.of ok).2.2.2 h)) hq
 all_goals exact h.elim
noncomputable def tGr(t:TV):aq {R:ae (ae (ae (ae Int))) // t= .gr R}:=match t with
 | .gr R=>af ⟨R,rfl⟩
 |_=>none
def aM(P:cC)(t:TV)(x:Nat)(s:AS):aq {g:au // ∀a σ,GV t a->GS s σ->∀K:au->Prop,K g->onM P a x σ.mem K}:=
 oe (ob (nR t) λ p=>jN (gU s.mem p.1) λ o ho=>ob (Hg o) λ c=>jN (gU s.mem c.1.2) λ o2 h2=>ob (oKs o2) λ kv=>jN (P.tP c.1.1 x) λ g hg=>bE (!wE kv.1 x) λ hk=>af ⟨g,λ a σ ga gs K k=>
  (gs.at ho c.2).elim λ aa z=>(gs.mem.get _ _ h2).elim λ o' z2=>(kv.2 _ _ z2.2).elim λ us e=>(ly ga p.2).symm▸Ax (z.1.trans (ah af z.2)) (z2.1.trans (ah af e)) (Ay hg hk k)⟩)
 (oe (ob (tGr t) λ R=>jN (P.tP 812 x) λ g hg=>bE (!wE [28,29] x) λ hk=>af ⟨g,λ a σ ga gs K k=>aD (R.2▸ga:GV (.gr R.1) a) λ ps e=>e.1.symm▸Ay hg hk k⟩)
 (ob (S2 t) λ c=>jN (P.tP c.1.1 x) λ g hg=>bE (!wE c.1.2.1 x) λ hk=>af ⟨g,λ a σ ga gs K k=>(ly ga c.2).symm▸Ay hg hk k⟩))
theorem fnOf{x:aq Obj}(h:(match x with|some ⟨_,_, .func _,_⟩=>true|_=>false)=true):∃o fd,x=af o/\o.data= .func fd:=by
 rcases x with _|⟨c,d,dt,sl⟩
 ·exact ay h
 ·cases dt
  case func fd=>exact⟨_,fd,rfl,rfl⟩
  all_goals exact ay h
theorem Pt{K:eI}{g:au}(h:fnIn K g=true):∃o fd,K.lookup g=af o/\o.data= .func fd:=fnOf h
def DO(o:SE P ct)(x:Nat)(ap:c9)(as:SL P ct)(p:c9):SE P ct where
 bA:= .Call (.Attribute o.bA (nm x) ap) as.bA [] p
 run:=λ σ K=>o.run σ λ a aI=>onM P a x aI.mem λ g=>as.run aI λ vs aV=>WC P g (a::vs) aV.mem λ v m'=>K v ⟨aV.loc,m'⟩
 ch:=mtB o.bA as.bA ap p&&(o.ch&&as.ch)
 star:=λ aa aa=>rfl
 ok:=λ c F G ρ σ s Kv O R h=>have d:=(aF c).1; have c:=(aF c).2; (Hb d (nm x) F.env (as.plain _ _)).elim λ pl he=>X.BW he (X.mono (o.ok (aF c).1 F G ρ σ s _ O R h) λ u s₁ z=>z.u λ dW c8 a aI fK fh dS va bH=>X.any (IZ O dS va bH λ g hg cW=>
  X.ui (Pm:=λ h=>∃o fd,h.get? g=af o/\o.data= .func fd) (as.plain _ _) Aj (X.mono (as.ok (aF c).2 F dW c8 aI s₁ _ _ O dS cW) λ vs bp z=>z.u λ jp g6 dx aV jf ju gN q6 fH=>⟨(Pt hg).imp λ aa=> .imp λ aa=> .imp_left ((gN.K O) _ _),X.mono (WC.take O gN (bJ.cons (va.up jf ju) q6) fH) λ aa aa=>PE.up (fK.trans jf) (fh.trans ju)⟩)))
 ab:=λ s=>bO (o.ab s) λ t s=>ob (aM P t x s) λ g=>bO (as.ab s) λ vs s=>ob (P.cB g.1 (t::vs) s.mem) λ outs=>af (Vh s outs)
 cO:=λ fo s outs h σ gs=>(o.cO fo).bind h gs λ t s l h a σ ga gs=>ob.u h λ g aa h=>D2.eq ((as.cO fo).bind (C:=λ vs aV K=>WC P g.1 (a::vs) aV.mem λ v m'=>K v ⟨aV.loc,m'⟩) h gs λ ts s l h vs σ Ut gs=>ob.u h λ outs e h=>am h▸(fo _ _ _ _ e _ _ (dH.cons ga Ut) gs.mem).d2 gs) λ K k=>g.2 a σ ga gs _ k
end
section
variable{P:cC}{ct:Ct}
theorem RF.side{F:Fd}{aS:ae bI}{G:BM}{ρ:ae au}{σ:St}{s s':ar}{I:au}(R:RF F aS G ρ σ s)(k:∀a o,a≠I->s.heap.get? a=af o->s'.heap.get? a=af o)
  (n1:I∉ρ) (n2:G I=none) (n3:F.h₀.get? I=none) (n4:I≠F.env.locals) (n5:∀x,F.env.cells.lookup x≠af I) (z:s'.gens=s.gens/\s'.gens=s.gens/\s'.os=s.os):RF F aS G ρ σ s':=by
 obtain⟨mL,oL,esL,epL,JM,rL⟩:=R.ns
 have kL:∀o,s.heap.get? F.env.locals=af o->s'.heap.get? F.env.locals=af o:=λ o e=>k _ o (Ne.symm n4) e
 have kc:∀y c o,F.env.cells.lookup y=af c->s.heap.get? c=af o->s'.heap.get? c=af o:=λ y c o e q=>k c o (λ h=>n5 y (h▸e)) q
 refine⟨R.rm.HG λ a o q e=>k a o (λ h=>?_) e,⟨mL,oL,esL,epL,kL _ JM,rL⟩,λ i x' v e e' n=>?_,R.lG,R.Bi,λ x' c e=>?_,R.p6,λ a o n f e=>k a o (λ h=>?_) (R.keep a o n f e),λ a o e=>?_,R.ext,R.nw,R.Cp,R.Bh,R.gz.trans (GZ.of z)⟩
 ·subst h
  rcases q with q|q
  ·exact n1 q
  ·rw[n2] at q; cases q
 ·obtain⟨u,q,a⟩:=R.loc i x' v e e' n
  exact⟨u,q,a.keeps kL kc⟩
 ·obtain⟨a,b,⟨v,o,ho,hd⟩,f⟩:=R.cell x' c e
  exact⟨a,b,⟨v,o,kc x' c o e ho,hd⟩,f⟩
 ·subst h; rw[n3] at e; cases e
 ·obtain⟨o',e'⟩:=R.live a o e
  by_cases h:a=I
  ·subst h; rw[n3] at e; cases e
  ·exact⟨o',k a o' h e'⟩
structure Loose(F:Fd)(G:BM)(ρ:ae au)(s:ar)(I:au):Prop where
 ρ:I∉ρ
 G:G I=none
 h:F.h₀.get? I=none
 L:I≠F.env.locals
 c:∀x,F.env.cells.lookup x≠af I
 al:∃o,s.heap.get? I=af o
theorem RF.Ni{F:Fd}{aS:ae bI}{G:BM}{ρ:ae au}{σ:St}{s s':ar}{I:au}(R:RF F aS G ρ σ s)(Lo:Loose F G ρ s I)(k:∀a o,a≠I->s.heap.get? a=af o->s'.heap.get? a=af o)(al:∃o,s'.heap.get? I=af o)
  (z:s'.gens=s.gens/\s'.gens=s.gens/\s'.os=s.os):RF F aS G ρ σ s'/\Loose F G ρ s' I:=
 ⟨R.side k Lo.ρ Lo.G Lo.h Lo.L Lo.c z,Lo.ρ,Lo.G,Lo.h,Lo.L,Lo.c,al⟩
theorem RF.XB{F:Fd}{aS:ae bI}{G:BM}{ρ:ae au}{σ:St}{s:ar}(R:RF F aS G ρ σ s){a:au}(q:s.heap.get? a=none):F.h₀.get? a=none:=by
 cases e:F.h₀.get? a with
 |none=>rfl
 |some o=>obtain⟨o',e'⟩:=R.live a o e; rw[q] at e'; cases e'
theorem RF.loose{F:Fd}{aS:ae bI}{G:BM}{ρ:ae au}{σ:St}{s s':ar}{I:au}(R:RF F aS G ρ σ s)(hI:s.heap.get? I=none)(al:∃o,s'.heap.get? I=af o):Loose F G ρ s' I:=by
 refine⟨λ hm=>?_,?_,R.XB hI,λ h=>?_,λ x h=>?_,al⟩
 ·obtain⟨o,ho⟩:=R.rm.some_of hm; rw[hI] at ho; cases ho
 ·cases e:G I with
  |none=>rfl
  |some o=>have:=R.rm.kg I o e; rw[hI] at this; cases this
 ·obtain⟨m,o,es,ep,ho,_⟩:=R.ns; subst h; rw[hI] at ho; cases ho
 ·obtain⟨_,_,⟨v,o,ho,_⟩,_⟩:=R.cell x I h; rw[hI] at ho; cases ho
theorem RF.over{F:Fd}{G G':BM}{ρ ρ':ae au}{σ b7:St}{s s':ar}{I:au}(R:RF F ct.aS G ρ σ s)(Lo:Loose F G ρ s I)(R':RF (F.now G ρ s) ct.aS G' ρ' b7 s'):
  RF F ct.aS G' ρ' b7 s'/\Loose F G' ρ' s' I/\∀o,s.heap.get? I=af o->s'.heap.get? I=af o:=by
 obtain⟨o,ho⟩:=Lo.al
 have kp:∀o,s.heap.get? I=af o->s'.heap.get? I=af o:=λ o e=>R'.keep I o Lo.ρ ⟨Lo.L,λ aa x aa=>Lo.c x⟩ e
 refine⟨R.then R',⟨λ hm=>?_,?_,Lo.h,Lo.L,Lo.c,_,kp o ho⟩,kp⟩
 ·rcases R'.nw I hm with q|q
  ·exact Lo.ρ q
  ·rw[show(F.now G ρ s).h₀=s.heap from rfl,ho] at q; cases q
 ·cases e:G' I with
  |none=>rfl
  |some o'=>
   rcases R'.Bh I o' e with q|q
   ·have:G I=af o':=q; rw[Lo.G] at this; cases this
   ·rw[show(F.now G ρ s).h₀=s.heap from rfl,ho] at q; cases q
abbrev yv(set:AV->St->(St->Prop)->Prop)(t:TV)(s s':AS):Prop:=∀v σ,GV t v->GS s σ->∃b7,GS s' b7/\∀K:St->Prop,K b7->set v σ K
structure TG(P:cC)(ct:Ct) where
 bA:aB
 set:AV->St->(St->Prop)->Prop
 ch:aC
 ok:ch=true->∀F G ρ σ s v u K,gM P ct F->RF F ct.aS G ρ σ s->VR G ρ v u->set v σ K->aH (aE P.prog P.w) F.A (assign bA F.env u) (λ aa s'=>∃b7,RF F ct.aS G ρ b7 s'/\K b7) dw s
 lz:aC
 go:∀(A:bn) (s:ar) (I:au) (u:ak) (Q:e9->ar->Prop),(lz=true\/∃l k,s.heap.IsListIter I l k)->Q () s->aH (aE P.prog P.w) A (dy bA (.ref I) u) Q dw s
 st:(t:TV)->(s:AS)->aq {s':AS // yv set t s s'}:=λ aa aa=>none
theorem qI{F:Fd}{G:BM}{ρ:ae au}{σ:St}{s:ar}{i:Nat}{x:bI}{av:AV}{u:ak}{Q:e9->ar->Prop}(O:gM P ct F)(R:RF F ct.aS G ρ σ s)(c:o9 ct i x=true)(va:VR G ρ av u)
  (h:∀s',RF F ct.aS G ρ ⟨setAt σ.loc i av,σ.mem⟩ s'->Q () s'):aH (aE P.prog P.w) F.A (t9 F.env x u) Q dw s:=
 X.back (tY (P:={P with j:=false}) ⟨O.kind,O.names,O.glob,O.blt,O.room,O.i8,O.vA,O.ro,O.cells,O.tb,O.cq⟩ R c va h)
def xn(i:Nat)(p:c9):TG P ct where
 bA:= .Name (He ct i) p
 set:=λ v σ K=>K (σ.set i v)
 ch:=o9 ct i (He ct i)
 ok:=λ c F G ρ σ s v u K O R va h=>xQ (qI O R c va λ s' R'=>⟨_,R',h⟩)
 lz:=true
 go:=λ aa aa aa aa aa aa q=>aw q
 st:=λ t s=>af ⟨s.set i t,λ v σ g gs=>⟨σ.set i v,⟨gs.loc.set i g,gs.mem⟩,λ K k=>k⟩⟩
noncomputable abbrev hJ:=Nat×bI×c9
noncomputable def qh:ae hJ->ae AV->St->(St->Prop)->Prop
 |[],[],σ,K=>K σ
 |n::r,v::vs,σ,K=>qh r vs (σ.set n.1 v) K
 |_,_,_,_=>False
noncomputable def bW:ae Int->ae AV
 |i::r=> .int i::bW r
 |[]=>[]
theorem oR{G:BM}{ρ:ae au}:∀{ns:ae Int} {vs:ae ak},cx ns vs->bJ G ρ (bW ns) vs
 |[],_=>id
 |i::r,_=>λ h=>h.uc (Q:=λ vs=>bJ G ρ (bW (i::r)) vs) λ t vs h=> .cons VR.mF (oR h)
def AG(ns:ae hJ)(v:AV)(σ:St)(K:St->Prop):Prop:=match v with
 | .tup xs=>qh ns xs σ K
 | .lF xs=>qh ns (bW xs) σ K
 |_=>False
noncomputable def jD(ct:Ct):ae hJ->aC
 |[]=>true
 |n::r=>o9 ct n.1 n.2.1&&jD ct r
theorem xe{K:St->Prop}:∀{ns:ae hJ} {vs:ae AV} {σ:St},qh ns vs σ K->ns.length=vs.length
 |[],[],_,_=>rfl
 |[],_::_,_,h=>h.elim
 |_::_,[],_,h=>h.elim
 |n::r,v::vs,σ,h=>ah (·+1) (xe (ns:=r) h)
noncomputable def names3(ns:ae hJ):ae aB:=ns.map λ n=> .Name n.2.1 n.2.2
theorem su{F:Fd}{G:BM}{ρ:ae au}{K:St->Prop}(O:gM P ct F):∀(ns:ae hJ) (dx:ae AV) (us:ae ak) (σ:St) (s:ar),jD ct ns=true->RF F ct.aS G ρ σ s->bJ G ρ dx us->qh ns dx σ K->
  aH (aE P.prog P.w) F.A (gE ((jG (names3 ns) F.env).map (·.2)) us) (λ aa s'=>∃b7,RF F ct.aS G ρ b7 s'/\K b7) dw s
 |[],[],us,σ,s,c,R,va,h=>va.u0 (Q:=λ us=>aH (aE P.prog P.w) F.A (gE [] us) (λ aa s'=>∃b7,RF F ct.aS G ρ b7 s'/\K b7) dw s) (aw ⟨σ,R,h⟩)
 |[],_::_,_,_,_,_,_,_,h=>h.elim
 |_::_,[],_,_,_,_,_,_,h=>h.elim
 |n::r,v::vs,us,σ,s,c,R,va,h=>va.uc (Q:=λ us=>aH (aE P.prog P.w) F.A (gE ((jG (names3 (n::r)) F.env).map (·.2)) us) (λ aa s'=>∃b7,RF F ct.aS G ρ b7 s'/\K b7) dw s) λ u ur vu vr=>
  aj (bU (xQ (qI O R (aF c).1 vu λ s' R'=>su O r vs ur _ s' (aF c).2 R' vr h)))
theorem qc(env:Env):∀ns:ae hJ,(jG (names3 ns) env).length=ns.length/\(jG (names3 ns) env).findIdx? (·.1)=none
 |[]=>⟨rfl,rfl⟩
 |n::r=>have h:=qc env r
  ⟨ah (·+1) h.1,(List.findIdx?_cons ..).trans (ah (ed (·+1)) h.2)⟩
theorem zt{F:Fd}{G:BM}{ρ:ae au}{σ:St}{s:ar}{ns:ae hJ}{K:St->Prop}(O:gM P ct F)(R:RF F ct.aS G ρ σ s)(c:jD ct ns=true){a:au}{o:Obj}{vs:bD ak}{dx:ae AV}(g:G a=af o)(t:pC o vs)(vr:bJ G ρ dx vs.toList)(h:qh ns dx σ K):
  aH (aE P.prog P.w) F.A (unpack (.ref a) (jG (names3 ns) F.env)) (λ aa s'=>∃b7,RF F ct.aS G ρ b7 s'/\K b7) dw s:=by
 unfold unpack
 rw[(qc F.env ns).1,(qc F.env ns).2,(xe h).trans (vr.length.symm.trans bh)]
 exact aj (bU (unpackItems_tuple O.room.2.2 ⟨o,R.rm.kg _ _ g,t.1,t.2⟩ λ h' e=>su O ns dx vs.toList σ _ c (R.grow (s':={s with heap:=h'}) (λ b o' q=>e b o' (dO (b9 q)) q) ⟨rfl,rfl,rfl⟩) vr h))
theorem AG.u{ns:ae hJ}{v:AV}{σ:St}{K:St->Prop}{Q:AV->Prop}(h:AG ns v σ K)(k1:∀xs,qh ns xs σ K->Q (.tup xs))(k2:∀xs,qh ns (bW xs) σ K->Q (.lF xs)):Q v:=by
 rcases v with _|_|_|_|_|_|_|_|xs|_|xs|_|_|_|_|_|_|_
 case lF=>exact k2 xs h
 case tup=>exact k1 xs h
 all_goals exact h.elim
theorem s_{F:Fd}{G:BM}{ρ:ae au}{σ:St}{s:ar}{ns:ae hJ}{v:AV}{u:ak}{K:St->Prop}(O:gM P ct F)(R:RF F ct.aS G ρ σ s)(c:jD ct ns=true)(va:VR G ρ v u)(h:AG ns v σ K):
  aH (aE P.prog P.w) F.A (unpack u (jG (names3 ns) F.env)) (λ aa s'=>∃b7,RF F ct.aS G ρ b7 s'/\K b7) dw s:=
 AG.u (Q:=λ v=>VR G ρ v u->aH (aE P.prog P.w) F.A (unpack u (jG (names3 ns) F.env)) (λ aa s'=>∃b7,RF F ct.aS G ρ b7 s'/\K b7) dw s) h
  (λ xs h va=>va.Jm (Q:=λ u=>aH (aE P.prog P.w) F.A (unpack u (jG (names3 ns) F.env)) (λ aa s'=>∃b7,RF F ct.aS G ρ b7 s'/\K b7) dw s) λ a o vs g t r=>zt O R c g t r h)
  (λ xs h va=>aD va λ a z=>z.elim λ o z=>z.elim λ vs z=>z.1▸zt O R c z.2.1 z.2.2.1 (oR z.2.2.2) h) va
noncomputable def Gb:ae hJ->ae TV->AS->aq AS
 |[],[],s=>af s
 |n::r,t::ts,s=>Gb r ts (s.set n.1 t)
 |_,_,_=>none
theorem v7:∀{ns:ae hJ} {ts:ae TV} {s s':AS} {vs:ae AV} {σ:St},Gb ns ts s=af s'->dH ts vs->GS s σ->∃b7,GS s' b7/\∀K:St->Prop,K b7->qh ns vs σ K
 |[],[],s,s',vs,σ,h,g,gs=>g.u0 (Q:=λ vs=>∃b7,GS s' b7/\∀K:St->Prop,K b7->qh [] vs σ K) ⟨σ,am h▸gs,λ K k=>k⟩
 |[],_::_,_,_,_,_,h,_,_=>cu h
 |_::_,[],_,_,_,_,h,_,_=>cu h
 |n::r,t::ts,s,s',vs,σ,h,g,gs=>g.uc (Q:=λ vs=>∃b7,GS s' b7/\∀K:St->Prop,K b7->qh (n::r) vs σ K) λ v vs g g2=>v7 (ns:=r) (ts:=ts) (s:=s.set n.1 t) (σ:=σ.set n.1 v) h g2 ⟨gs.loc.set n.1 g,gs.mem⟩
abbrev aa_(ts:ae TV)(v:AV):Prop:=∃vs,dH ts vs/\∀ns σ K,qh ns vs σ K->AG ns v σ K
def tUp(t:TV):aq {ts:ae TV // ∀v,GV t v->aa_ ts v}:=match t with
 | .tp a b=>af ⟨[a,b],λ v g=>aD g λ x g=>g.elim λ y g=>g.1▸⟨[x,y], .cons g.2.1 (.cons g.2.2 rfl),λ aa aa aa k=>k⟩⟩
 | .ex (.tup xs)=>af ⟨yQ xs,λ v g=>(show v=_ from g)▸⟨xs,lj xs,λ aa aa aa k=>k⟩⟩
 | .ex (.lF xs)=>af ⟨yQ (bW xs),λ v g=>(show v=_ from g)▸⟨_,lj _,λ aa aa aa k=>k⟩⟩
 |_=>none
def RR(ns:ae hJ)(t:TV)(s:AS):aq {s':AS // yv (AG ns) t s s'}:=ob (tUp t) λ ts=>jN (Gb ns ts.1 s) λ s' h=>af ⟨s',λ v σ g gs=>
 (ts.2 v g).elim λ vs z=>(v7 h z.1 gs).imp λ b7 y=>⟨y.1,λ K w=>z.2 _ _ _ (y.2 K w)⟩⟩
theorem Ur{prog:aK}{w:bw}{A:bn}{s:ar}{I:au}{u:ak}{es:ae aB}{k:Nat}{p:c9}{Q:e9->ar->Prop}(hit:∃l k,s.heap.IsListIter I l k)(q:Q () s):aH (aE prog w) A (dy (.Tuple es k p) (.ref I) u) Q dw s:=by
 obtain⟨l,k,hit⟩:=hit
 cases u with
 |ref T=>exact wpAny_letOwnedTupleGo_listiter hit q
 |_=>exact aw q
def Nz(ns:ae hJ)(k:Nat)(p:c9):TG P ct where
 bA:= .Tuple (names3 ns) k p
 set:=AG ns
 ch:=jD ct ns
 ok:=λ c F G ρ σ s v u K O R va h=>aj (hW (s_ O R c va h))
 lz:=false
 go:=λ A s I u Q hit q=>Ur (hit.resolve_left aW) q
 st:=RR ns
theorem VV{ns vs:ae aB}{tp vp:c9}{k kv:Nat}{env:Env}(hf:vs.all (mU 8)=true):i7 [.Tuple ns k tp] (.Tuple vs kv vp) env=pure none:=by
 unfold i7
 dsimp only
 split
 ·rfl
 ·split
  ·rfl
  ·split
   ·rfl
   ·rfl
noncomputable def Yo(e:aB):aC:=match e with
 | .Attribute .. =>true
 | .Call .. =>true
 | .Subscript .. =>true
 | .Name .. =>true
 | .Tuple vs _ _=>vs.all (mU 8)
 |_=>false
theorem ZX{e:aB}(h:Yo e=true):vt 2 e=true/\∀ns k tp env,i7 [.Tuple ns k tp] e env=pure none:=by
 cases e
 case Attribute=>exact⟨rfl,λ aa aa aa aa=>rfl⟩
 case Call=>exact⟨rfl,λ aa aa aa aa=>rfl⟩
 case Subscript=>exact⟨rfl,λ aa aa aa aa=>rfl⟩
 case Name=>exact⟨rfl,λ aa aa aa aa=>rfl⟩
 case Tuple=>exact⟨rfl,λ aa aa aa aa=>VV h⟩
 all_goals exact ay h
def ac6(ns:ae hJ)(k:Nat)(tp:c9)(e:SE P ct)(p:c9):SX P ct where
 bA:= .Assign [.Tuple (names3 ns) k tp] e.bA p
 run:=λ σ K=>e.run σ λ v aI=>AG ns v aI λ aV=>K .d8 aV
 ch:=Yo e.bA&&(jD ct ns&&e.ch)
 ok:=λ c F G ρ σ s Kv O R h=>have d:=ZX (aF c).1; have c:=(aF c).2; X.xT (by unfold H9; exact HI d.1) (d.2 _ _ _ _) (X.mono (e.ok (aF c).2 F G ρ σ s _ O R h) λ v s₁ z=>z.u λ G' ρ' a b7 g x R' va kk=>X.any (show aH _ _ (do dp tp; unpack v (jG (names3 ns) F.env)) _ _ _ from
  aj (hW (c7 (s_ O R' (aF c).1 va kk) (λ aa s' y=>y.elim λ Jp y=>PF.d8 g x y.1 y.2) λ aa aa z=>z))))
 ab:=Kh e.ab λ t s=>ob (RR ns t s) λ s'=>af [(.d8,s'.1)]
 cO:=λ fo=>nJ fo λ t s outs a σ h ga gs=>ob.u h λ s' aa h=>(s'.2 a σ ga gs).elim λ b7 z=>D2.one h rfl z.1 λ K w=>z.2 _ w
end
section
variable{prog:aK}{w:bw}{A:bn}{s:ar}{d it:au}{o:Obj}{es:bD bf}{ep i:Nat}
theorem EN(h:s.heap.get? d=af o)(c:o.ExactDict):s.TypeIs (.ref d) "dict":=⟨o,h,c.1⟩
theorem LM{Q:ak->ar->Prop}(ne:d≠di)(h:s.heap.get? d=af o)(c:o.ExactDict)(hd:o.data= .dict es ep)
  (q:Q (.ref s.heap.objs.size) {s with heap:=s.heap.push {cls:= .type "dict_keyiterator",data:= .fields #[.ref d, .int 0 0, .int es.size 0, .int ep 0]}}):aH (aE prog w) A (iz (.ref d)) Q dw s:=by
 have hT:=EN h c
 refine xS hT F.slot_dict_iter (cA F.slot_dict_iter hT F.entry_dict_iter ?_ (F.args_dict_iter_1 _))
 unfold b8.«dict.__iter__» Builtin.Dict.dictSlotNone
 refine aj (aj (ms hT ?_))
 show aH _ _ (pure (du d)) _ _ s
 refine aw ?_
 show aH _ _ (Builtin.Dict.showsAll d>>=_) _ _ s
 unfold Builtin.Dict.showsAll
 rw[bC (by simpa using ne)]
 refine aj (aw (aj (eh h hd (aj (nF h hd ?_)))))
 exact aj (cP (aw ⟨_,rfl,"dict_keyiterator",_,⟨_,aN _ rfl,rfl⟩,F.slot_dict_keyiterator_next.lookup,q⟩))
theorem C4{Q:aq ak->ar->Prop}(hh:A.handled=none)(h:s.heap.get? d=af o)(c:o.ExactDict)(hd:o.data= .dict es ep)(hit:s.heap.IsKeyIter it d i es.size ep)
  (q1:es[i]?=none->∀h',vM it s.heap h'->Q none {s with heap:=h'})
  (q2:∀e,es[i]?=af e->∀h',h'.IsKeyIter it d (i+1) es.size ep->kZ it s.heap h'->Q (af e.key) {s with heap:=h'}):aH (aE prog w) A (gL (.ref it)) Q dw s:=by
 obtain⟨oi,hoi,hci,X9⟩:=id hit
 have hT:=hit.typeIs
 have name:∀{α:Type} {A:bn} {k:cS->ie α} {Q:α->ar->Prop} {E:ak->ar->Prop},aH (aE prog w) A (k "dict_keyiterator") Q E s->aH (aE prog w) A (typeNameOfWhole (.ref it)>>=k) Q E s:=
  λ h=>aj (iO hT h)
 unfold gL
 refine aj (kW (de (name:=bT "__next__") hT F.slot_dict_keyiterator_next
  (cA F.slot_dict_keyiterator_next hT F.entry_dict_keyiterator_next ?_ (F.args_dict_keyiterator_next_1 _))))
 refine aj (aw (aj (aj ?_)))
 first|refine aj (iO hT (aw ?_))|refine aj (pP hT (aw ?_))
 refine aj (Ec hoi X9 ?_)
 rw[show Builtin.Dict_items.ownsTuple "dict_keyiterator"=false from by decide,bC aW]
 show aH _ _ (if (du d==c_)=true then _ else _) _ _ s
 rw[bC (show ¬((du d==c_)=true) from aW)]
 refine aj (aw (aj (eh h hd ?_)))
 rw[bC (by simp)]
 refine aj (aw (aj (nF h hd ?_)))
 rw[bC (by simp)]
 refine aw ?_
 dsimp only
 rw[show(if (i:Int) < 0 then none else es[(i:Int).toNat]?)=es[i]? from bC (gX.mpr (kj i))]
 cases hx:es[i]? with
 |none=>
  dsimp only
  refine aj ?_
  first|refine aj (iO hT (aw ?_))|refine aj (pP hT (aw ?_))
  show aH _ _ (setField (.ref it) 0 .none>>=_) _ _ s
  refine aj (oG hoi X9 (by simp) ?_)
  show aH _ _ (Ea (.type "StopIteration") []>>=_) _ _ _
  refine aj ?_
  unfold Ea newTuple
  refine aj (cP ?_ (by size_fits))
  refine aj (m:=jH _ _) (bu (a:=c_) (by first|rfl|(simp only[jH]; rfl)) ?_)
  refine cP ?_ (by size_fits)
  unfold raiseNew
  refine aj (wpAny_handled ?_)
  rw[show A.in1.handled=none from hh]
  refine aj (aw (wpAny_throw ?_))
  refine aj (eO (T:="StopIteration") (b:=true) ⟨_,aN _ rfl,rfl⟩ D_ ?_)
  exact aw (q1 hx _ (((dF ..).extBut.push _).push _))
 |some e=>
  dsimp only
  refine aj ?_
  first|refine aj (iO hT (aw ?_))|refine aj (pP hT (aw ?_))
  refine aj (wpAny_isOneOf_keyiter hT ?_)
  show aH _ _ (setField (.ref it) 1 (nC ((i:Int)+1))>>=_) _ _ s
  refine aj (oG hoi X9 (by simp) ?_)
  have Yb:(s.heap.update it (Obj.mapFields (·.setIfInBounds 1 (nC ((i:Int)+1))))).IsKeyIter it d (i+1) es.size ep:=
   ⟨_,dK _ hoi (Obj.isFreed_of_fields (Obj.data_mapFields X9 _)),(Obj.cls_mapFields ..).trans hci,by rw[Obj.data_mapFields X9]; simp [nC]⟩
  refine aj (bU ?_)
  refine aj (wpAny_isOneOf_keyiter (s:={s with heap:=s.heap.update it (Obj.mapFields (·.setIfInBounds 1 (nC ((i:Int)+1))))}) Yb.typeIs ?_)
  show aH _ _ (pure e.key) _ _ _
  exact aw (aw ⟨_,rfl,aw (q2 e hx _ Yb (dF ..))⟩)
end
noncomputable def nP:ae AV->Nat->aq AV
 |v::_,0=>af v
 |_::r,i+1=>nP r i
 |[],_=>none
theorem qB:∀(l:ae AV) (i:Nat),nP l i=l[i]?
 |[],_=>rfl
 |_::_,0=>rfl
 |_::r,i+1=>qB r i
inductive IK where
 |fz (k:Nat) (rest:ae AV)|own (p k:Nat)|j_ (n:Nat) (i c:Int)|keys (k:Nat) (rest:ae (ae Int))
inductive ItF(G:BM)(ρ:ae au)(h:Heap)(I:au)(k:Nat)(rest:ae AV):Prop
 |mk (l:au) (o:Obj) (vs:bD ak) (xs:ae AV) (i:h.IsListIter I l k) (g:G l=af o) (lo:iY o vs) (v:bJ G ρ xs vs.toList) (e:rest=xs.drop k)
inductive ItD(G:BM)(h:Heap)(I:au)(k:Nat)(rest:ae (ae Int)):Prop
 |mk (d:au) (o:Obj) (es:bD bf) (ep:Nat) (us:ae ak) (ks:ae (ae Int)) (g:G d=af o) (x:o.ExactDict) (hd:o.data= .dict es ep) (r:pB G ks es.toList us) (i:h.IsKeyIter I d k es.size ep) (e:rest=ks.drop k)
def Ia(G:BM)(ρ:ae au)(h:Heap)(I:au):IK->Prop
 | .fz k rest=>ItF G ρ h I k rest
 | .own p k=>∃l,ρ[p]?=af l/\h.IsListIter I l k
 | .j_ n i c=>A4 h I i n c
 | .keys k rest=>ItD G h I k rest
theorem Ia.up{G G':BM}{ρ ρ':ae au}{h h':Heap}{I:au}(g:dG G G')(x:Ext ρ ρ')(k:∀o,h.get? I=af o->h'.get? I=af o){ik:IK}(q:Ia G ρ h I ik):Ia G' ρ' h' I ik:=by
 cases ik with
 |fz n rest=>exact ItF.casesOn (motive:=λ aa=>ItF G' ρ' h' I n rest) q λ l o vs xs i hg lo v e=>⟨l,o,vs,xs,i.imp λ aa=> .imp_left (k _),g _ _ hg,lo,v.up g x,e⟩
 |own p n=>exact cQ (λ l=> .imp x.get (.imp λ aa=> .imp_left (k _))) q
 |j_ n i c=>exact k _ q
 |keys n rest=>exact ItD.casesOn (motive:=λ aa=>ItD G' h' I n rest) q λ d o es ep us ks hg c e r i q=>⟨d,o,es,ep,us,ks,g _ _ hg,c,e,r.up g,i.imp λ aa=> .imp_left (k _),q⟩
def Va(o:aq AV)(p k:Nat)(K:aq (AV×IK)->Prop):Prop:=match o with
 |some v=>K (af (v, .own p (k+1)))
 |none=>K none
def As(ik:IK)(mem:ae AO)(K:aq (AV×IK)->Prop):Prop:=match ik with
 | .fz k rest=>(match rest with
  |[]=>K none
  |v::r=>K (af (v, .fz (k+1) r)))
 | .own p k=>pG mem p λ o=>match o with
  | .lst xs=>Va (nP xs k) p k K
  | .il ns=>Va (nP (bW ns) k) p k K
  |_=>False
 | .j_ n i c=>(match n with
  |0=>K none
  |n+1=>K (af (.int i, .j_ n (i+c) c)))
 | .keys k rest=>(match rest with
  |[]=>K none
  |v::r=>K (af (.tup (bW v), .keys (k+1) r)))
noncomputable def po:IK->aC
 | .fz _ _=>true
 | .own _ _=>true
 |_=>false
theorem pB.len{G:BM}:∀{ks:ae (ae Int)} {es:ae bf} {us:ae ak},pB G ks es us->es.length=ks.length
 |[],_,_=>λ h=>h.u0 (Q:=λ es aa=>es.length=0) rfl
 |k::ks,_,_=>λ h=>h.uc (Q:=λ es aa=>es.length=ks.length+1) λ aa aa aa aa aa h=>ah (·+1) (pB.len h)
theorem pB.at{G:BM}{ρ:ae au}:∀{ks:ae (ae Int)} {es:ae bf} {us:ae ak},pB G ks es us->∀{i:Nat} {k:ae Int},ks[i]?=af k->∃e,es[i]?=af e/\VR G ρ (.tup (bW k)) e.key
 |[],_,_,_,i,_,e=>cu e
 |k::ks,_,_,h,0,k',e=>h.uc (Q:=λ es aa=>∃e,es[0]?=af e/\VR G ρ (.tup (bW k')) e.key) λ a u es us t aa=>⟨_,rfl,am e▸aD t λ o t=>t.elim λ vs t=>VR.ZY t.1 t.2.1 (oR t.2.2)⟩
 |k::ks,_,_,h,j+1,k',e=>h.uc (Q:=λ es aa=>∃e,es[j+1]?=af e/\VR G ρ (.tup (bW k')) e.key) λ a u es us aa h=>pB.at (i:=j) h e
theorem RF.own{F:Fd}{G:BM}{ρ:ae au}{σ:St}{s:ar}{v:ak}{aS:ae bI}{p:Nat}{o:AO}(R:RF F aS G ρ σ s)(va:VR G ρ (.own p) v)(e:bM σ.mem p=af o){Q:ak->Prop}(k:∀adr ob,ρ[p]?=af adr->s.heap.get? adr=af ob->OR G ρ o ob->Q (.ref adr)):Q v:=
 va.Qv λ adr jK=>(R.rm.obj p adr o jK ((eL ..).symm.trans e)).elim λ ob q=>k adr ob jK q.1 q.2
section
variable{P:cC}{ct:Ct}{F:Fd}{G:BM}{ρ:ae au}{σ:St}{s:ar}{I:au}{ik:IK}
structure Nx1(F:Fd)(aS:ae bI)(G:BM)(ρ:ae au)(σ:St)(I:au)(ik:IK)(K:aq (AV×IK)->Prop)(v:AV)(EU:IK)(u:ak)(s:ar):Prop where
 R:RF F aS G ρ σ s
 L:Loose F G ρ s I
 vr:VR G ρ v u
 i:Ia G ρ s.heap I EU
 l:po ik=false\/∃l k,s.heap.IsListIter I l k
 e:po EU=po ik
 k:K (af (v,EU))
def NxR(F:Fd)(aS:ae bI)(G:BM)(ρ:ae au)(σ:St)(I:au)(ik:IK)(K:aq (AV×IK)->Prop)(r:aq ak)(s:ar):Prop:=match r with
 |none=>RF F aS G ρ σ s/\K none
 |some u=>∃v EU,Nx1 F aS G ρ σ I ik K v EU u s
variable{K:aq (AV×IK)->Prop}
abbrev NW(P:cC)(ct:Ct)(F:Fd)(G:BM)(ρ:ae au)(σ:St)(I:au)(ik:IK)(K:aq (AV×IK)->Prop)(s:ar):Prop:=aH (aE P.prog P.w) F.A (gL (.ref I)) (NxR F ct.aS G ρ σ I ik K) dw s
theorem next_end(R:RF F ct.aS G ρ σ s)(Lo:Loose F G ρ s I)(k:K none)(h':Heap)(e:vM I s.heap h'):NxR F ct.aS G ρ σ I ik K none {s with heap:=h'}:=
 ⟨R.side (s':={s with heap:=h'}) (λ a o ne q=>e a o ne q) Lo.ρ Lo.G Lo.h Lo.L Lo.c ⟨rfl,rfl,rfl⟩,k⟩
theorem C2(O:gM P ct F)(R:RF F ct.aS G ρ σ s)(Lo:Loose F G ρ s I){l:au}{k:Nat}{o:Obj}{vs:bD ak}{xs:ae AV}(hi:s.heap.IsListIter I l k)(ho:s.heap.get? l=af o)(hl:iY o vs)(hv:bJ G ρ xs vs.toList)
  (k0:xs[k]?=none->K none) (k1:∀v,xs[k]?=af v->∃EU,po EU=po ik/\(∀h':Heap,h'.IsListIter I l (k+1)->Ia G ρ h' I EU)/\K (af (v,EU))):NW P ct F G ρ σ I ik K s:=
 have L:s.heap.IsList l vs:=⟨o,ho,hl.is⟩
 have ee:vs[k]?=vs.toList[k]?:=bP.symm
 match e:xs[k]? with
 |none=>wpAny_pyNext_list_end O.room.2.2 hi L (ee.trans (e8 (aG (aU hv.length) (nS.mp e)))) (next_end R Lo (k0 e))
 |some v=>(hv.get e).elim λ u hu=>(k1 v e).elim λ EU q=>wpAny_pyNext_list_item hi L (ee.trans hu.1) λ h' wH sb=>
   have al:∃o,h'.get? I=af o:=wH.imp λ aa=>eG
   have z:=R.Ni (s':={s with heap:=h'}) Lo (λ a o ne e=>sb.extBut a o ne e) al ⟨rfl,rfl,rfl⟩
   ⟨v,EU,z.1,z.2,hu.2,q.2.1 h' wH, .inr ⟨_,_,wH⟩,q.1,q.2.2⟩
theorem yM{α:Type}{xs:ae α}{k:Nat}(e:xs[k]?=none):xs.drop k=[]:=FS.mpr (nS.mp e)
theorem yN{α:Type}{xs:ae α}{k:Nat}{v:α}(e:xs[k]?=af v):xs.drop k=v::xs.drop (k+1):=by
 have h:=jm.mp e
 rw[← List.getElem_cons_drop h.1,h.2]
theorem C3(O:gM P ct F)(R:RF F ct.aS G ρ σ s)(Lo:Loose F G ρ s I){l:au}{p k:Nat}{o:Obj}{vs:bD ak}{xs:ae AV}(hp:ρ[p]?=af l)(hi:s.heap.IsListIter I l k)(ho:s.heap.get? l=af o)(hl:iY o vs)(hv:bJ G ρ xs vs.toList)(h:Va (nP xs k) p k K):NW P ct F G ρ σ I (.own p k) K s:=
 C2 O R Lo hi ho hl hv (λ e=>(ah (Va · p k K) ((qB xs k).trans e)).mp h) λ v e=>⟨.own p (k+1),rfl,λ h' wH=>⟨l,hp,wH⟩,(ah (Va · p k K) ((qB xs k).trans e)).mp h⟩
theorem wP(O:gM P ct F)(R:RF F ct.aS G ρ σ s)(Lo:Loose F G ρ s I)(it:Ia G ρ s.heap I ik)(h:As ik σ.mem K):NW P ct F G ρ σ I ik K s:=by
 cases ik with
 |fz k rest=>
  obtain⟨l,o,vs,xs,hi,hg,hl,hv,rfl⟩:=it
  exact C2 O R Lo hi (R.rm.kg _ _ hg) hl hv (λ e=>(ah (λ r=>As (.fz k r) σ.mem K) (yM e)).mp h) λ v e=>⟨.fz (k+1) (xs.drop (k+1)),rfl,λ h' wH=>⟨l,o,vs,xs,wH,hg,hl,hv,rfl⟩,(ah (λ r=>As (.fz k r) σ.mem K) (yN e)).mp h⟩
 |own p k=>
  exact aD it λ l z=>pG.u h λ ao X5 h=>(R.rm.obj _ _ _ z.1 ((eL ..).symm.trans X5)).elim λ ob q=>by
   rcases ao with xs|_|_|_|_|_|_|_
   case lst=>exact q.2.elim λ vs w=>C3 O R Lo z.1 z.2 q.1 w.1 w.2 h
   case il=>exact q.2.elim λ vs w=>C3 O R Lo z.1 z.2 q.1 w.1 (oR w.2) h
   all_goals exact h.elim
 |j_ n i c=>
  cases n with
  |zero=>exact wpAny_pyNext_range_end O.room.2.2 it (dT 0) (next_end R Lo h)
  |succ n=>
   refine JC it (Int.ofNat_succ_pos n) λ h' wH sb=>?_
   rw[show((n+1:Nat):Int) - 1=(n:Nat) from Int.add_sub_cancel (n:Int) 1] at wH
   have z:=R.Ni (s':={s with heap:=h',toks:=s.toks+1}) Lo (λ a o ne e=>sb.extBut a o ne e) ⟨_,wH⟩ ⟨rfl,rfl,rfl⟩
   exact⟨.int i, .j_ n (i+c) c,z.1,z.2,VR.mF,wH, .inl rfl,rfl,h⟩
 |keys k rest=>
  obtain⟨d,o,es,ep,us,ks,hd,c,e,r,hi,rfl⟩:=it
  have ee:es[k]?=es.toList[k]?:=bP.symm
  cases q:ks[k]? with
  |none=>exact C4 O.room.2.2 (R.rm.kg _ _ hd) c e hi (λ aa=>next_end R Lo ((ah (λ r=>As (.keys k r) σ.mem K) (yM q)).mp h)) λ en hx=>cu ((ee.trans (e8 (aG (aU r.len) (nS.mp q)))).symm.trans hx)
  |some k'=>
   obtain⟨e',h2,h3⟩:=r.at (ρ:=ρ) q
   refine C4 O.room.2.2 (R.rm.kg _ _ hd) c e hi (λ hx=>cu (hx.symm.trans (ee.trans h2))) λ en hx h' wH sb=>?_
   obtain rfl:=am (h2.symm.trans (ee.symm.trans hx))
   have al:∃o,h'.get? I=af o:=wH.imp λ aa=>eG
   have z:=R.Ni (s':={s with heap:=h'}) Lo (λ a o ne e=>sb.extBut a o ne e) al ⟨rfl,rfl,rfl⟩
   exact⟨_, .keys (k+1) (ks.drop (k+1)),z.1,z.2,h3,⟨d,o,es,ep,us,ks,hd,c,e,r,wH,rfl⟩, .inl rfl,rfl,(ah (λ r=>As (.keys k r) σ.mem K) (yN q)).mp h⟩
def JN(lz:aC)(v:AV)(K:IK->Prop):Prop:=match v with
 | .lst xs=>K (.fz 0 xs)
 | .row ns=>K (.fz 0 (bW ns))
 | .own p=>K (.own p 0)
 | .j_ a b c=>cK (lz&&Builtin.Range.small a b c) (K (.j_ (Builtin.Range.rangeSize a b c).toNat a c))
 | .bG ks _=>cK lz (K (.keys 0 ks))
 |_=>False
def IQ(v:AV)(mem:ae AO)(K:Prop):Prop:=match v with
 | .own p=>pG mem p λ o=>match o with
  | .lst _=>K
  | .il _=>K
  |_=>False
 |_=>K
theorem sU(a b c:Int):0<=Builtin.Range.rangeSize a b c:=by
 unfold Builtin.Range.rangeSize
 split
 ·split
  ·have:=xL (a:=b - a - 1) (b:=c) (by omega) (by omega); omega
  ·exact dT _
 ·split
  ·have:=xL (a:=a - b - 1) (b:=-c) (by omega) (by omega); omega
  ·exact dT _
theorem JN.u{lz:aC}{v:AV}{mem:ae AO}{K:IK->Prop}{Q:AV->Prop}(h:IQ v mem (JN lz v K))(ko:∀p,IQ (.own p) mem (K (.own p 0))->Q (.own p))(kl:∀xs,K (.fz 0 xs)->Q (.lst xs))(kr:∀ns,K (.fz 0 (bW ns))->Q (.row ns))
  (kg:∀a b c,(lz&&Builtin.Range.small a b c)=true->K (.j_ (Builtin.Range.rangeSize a b c).toNat a c)->Q (.j_ a b c)) (kd:∀ks us,lz=true->K (.keys 0 ks)->Q (.bG ks us)):Q v:=by
 rcases v with _|_|_|_|_|p|_|_|_|_|_|xs|ns|_|_|⟨a,b,c⟩|_|⟨ks,us⟩
 case own=>exact ko p h
 case lst=>exact kl xs h
 case row=>exact kr ns h
 case j_=>exact cK.u h (kg a b c)
 case bG=>exact cK.u h (kd ks us)
 all_goals exact h.elim
theorem IQ.u{p:Nat}{mem:ae AO}{K Q:Prop}(h:IQ (.own p) mem K)(kl:∀xs,bM mem p=af (.lst xs)->K->Q)(ki:∀ns,bM mem p=af (.il ns)->K->Q):Q:=pG.u h λ o e h=>by
 rcases o with xs|_|_|_|_|_|_|_
 case lst=>exact kl xs e h
 case il ns=>exact ki ns e h
 all_goals exact h.elim
structure It1(F:Fd)(aS:ae bI)(G:BM)(ρ:ae au)(σ:St)(s:ar)(lz:aC)(K:IK->Prop)(I:au)(ik:IK)(s':ar):Prop where
 no:s.heap.get? I=none
 k:∀b o,s.heap.get? b=af o->s'.heap.get? b=af o
 z:s'.gens=s.gens/\s'.gens=s.gens/\s'.os=s.os
 R:RF F aS G ρ σ s'
 L:Loose F G ρ s' I
 i:Ia G ρ s'.heap I ik
 n:po ik=true\/lz=true
 h:K ik
def RE(F:Fd)(aS:ae bI)(G:BM)(ρ:ae au)(σ:St)(s:ar)(lz:aC)(K:IK->Prop)(i:ak)(s':ar):Prop:=∃I ik,i= .ref I/\It1 F aS G ρ σ s lz K I ik s'
theorem tM{aS:ae bI}{lz:aC}{K:IK->Prop}(R:RF F aS G ρ σ s)(o:Obj)(fr:o.isFreed=false)(hi:Ia G ρ (s.heap.push o) s.heap.objs.size ik)(hn:po ik=true\/lz=true)(k:K ik):RE F aS G ρ σ s lz K (.ref s.heap.objs.size) {s with heap:=s.heap.push o}:=
 ⟨_,ik,rfl,R.K0,λ b o e=>aA _ e,⟨rfl,rfl,rfl⟩,R.grow (λ b o e=>aA _ e) ⟨rfl,rfl,rfl⟩,R.loose R.K0 ⟨_,aN _ fr⟩,hi,hn,k⟩
theorem sI{lz:aC}{K:IK->Prop}(R:RF F ct.aS G ρ σ s){l:au}{o:Obj}{vs:bD ak}(ho:s.heap.get? l=af o)(hl:iY o vs)(e:po ik=true)(k:K ik)(hi:∀(h:Heap) I,h.IsListIter I l 0->Ia G ρ h I ik):aH (aE P.prog P.w) F.A (iz (.ref l)) (RE F ct.aS G ρ σ s lz K) dw s:=
 xR ⟨o,ho,hl.is⟩ (tM R _ rfl (hi _ _ ⟨_,aN _ rfl,rfl,rfl⟩) (.inl e) k)
theorem r4{v:AV}{u:ak}{lz:aC}{K:IK->Prop}(O:gM P ct F)(R:RF F ct.aS G ρ σ s)(va:VR G ρ v u)(h:IQ v σ.mem (JN lz v K)):aH (aE P.prog P.w) F.A (iz u) (RE F ct.aS G ρ σ s lz K) dw s:=
 JN.u (Q:=λ v=>VR G ρ v u->aH (aE P.prog P.w) F.A (iz u) (RE F ct.aS G ρ σ s lz K) dw s) h
  (λ p h va=>h.u (λ xs e k=>R.own va e (Q:=λ u=>aH (aE P.prog P.w) F.A (iz u) (RE F ct.aS G ρ σ s lz K) dw s) λ l ob hl ho q=>aD q λ vs q=>sI R ho q.1 rfl k λ h I hi=>⟨l,hl,hi⟩)
   λ ns e k=>R.own va e (Q:=λ u=>aH (aE P.prog P.w) F.A (iz u) (RE F ct.aS G ρ σ s lz K) dw s) λ l ob hl ho q=>aD q λ vs q=>sI R ho q.1 rfl k λ h I hi=>⟨l,hl,hi⟩)
  (λ xs k va=>va.lstU (Q:=λ u=>aH (aE P.prog P.w) F.A (iz u) (RE F ct.aS G ρ σ s lz K) dw s) λ l o vs hg hl hv=>sI R (R.rm.kg _ _ hg) hl rfl k λ h I hi=>⟨l,o,vs,xs,hi,hg,hl,hv,rfl⟩)
  (λ ns k va=>va.Dl (Q:=λ u=>aH (aE P.prog P.w) F.A (iz u) (RE F ct.aS G ρ σ s lz K) dw s) λ l o vs hg hl hv=>sI R (R.rm.kg _ _ hg) hl rfl k λ h I hi=>⟨l,o,vs,_,hi,hg,hl,oR hv,rfl⟩)
  (λ a b c hb k va=>aD va λ r z=>z.elim λ t z=>z.elim λ t' z=>z.elim λ t'' z=>z.1▸wpAny_pyIter_range (R.rm.kg _ _ z.2) (aF hb).2 (tM R _ rfl (ik:= .j_ (Builtin.Range.rangeSize a b c).toNat a c) ((ah (A4 _ _ a · c) (sp (sU a b c))).mpr (aN _ rfl)) (.inr (aF hb).1) k))
  (λ ks us hb k va=>aD va λ d z=>z.elim λ o z=>z.elim λ es z=>z.elim λ ep z=>z.elim λ us z=>z.1▸LM z.2.2.2.2.2.2.2 (R.rm.kg _ _ z.2.1) z.2.2.1 z.2.2.2.1 (tM R _ rfl (ik:= .keys 0 ks) ⟨d,o,es,ep,us,ks,z.2.1,z.2.2.1,z.2.2.2.1,z.2.2.2.2.1,⟨_,aN _ rfl,rfl,rfl⟩,rfl⟩ (.inr hb) k)) va
end
section
variable{P:cC}{ct:Ct}
noncomputable abbrev Body:=St->(Fl->St->Prop)->Prop
noncomputable def jq(set:AV->St->(St->Prop)->Prop)(b:Body):Nat->IK->St->(Fl->St->Prop)->Prop
 |0,_,_,_=>False
 |n+1,ik,σ,K=>As ik σ.mem λ r=>match r with
  |none=>K .d8 σ
  |some x=>set x.1 σ λ aI=>b aI λ f aV=>sd f aV (λ dC=>jq set b n x.2 dC K) K
inductive LpI{P:cC}{ct:Ct}(t:TG P ct)(b:SS P ct)(F:Fd)(G₀:BM)(gJ:ae au)(Kv:Fl->St->Prop)(I:au)(n:Nat)(s:ar):Prop
 |mk (G:BM) (ρ:ae au) (σ:St) (ik:IK) (g:dG G₀ G) (x:Ext gJ ρ) (R:RF F ct.aS G ρ σ s) (L:Loose F G ρ s I) (i:Ia G ρ s.heap I ik) (nm:po ik=true\/t.lz=true) (h:jq t.set b.run n ik σ Kv)
theorem Mo{lz:aC}{ik:IK}{A:Prop}(nm:po ik=true\/lz=true)(l:po ik=false\/A):lz=true\/A:=nm.elim (λ q=> .inr (l.resolve_left λ e=>nomatch q.symm.trans e)) .inl
theorem E8{t:TG P ct}{b:SS P ct}(JJ:t.ch=true)(cb:b.ch=true){F:Fd}(O:gM P ct F){G₀:BM}{gJ:ae au}{Kv:Fl->St->Prop}{I:au}(n:Nat)(s:ar)(q:LpI t b F G₀ gJ Kv I n s):
  dP P.j (aE P.prog P.w) F.A (.forLoop t.bA (.ref I) b.bA [] F.env) (λ r s'=>match r with | .ok f=>PF F ct.aS G₀ gJ Kv f s' | .error _=>False) s:=by
 refine X.forLoop (LpI t b F G₀ gJ Kv I) (λ n s q=>?_) n q
 cases q with|mk G ρ σ ik g x R L i nm h=>
 cases n with
 |zero=>exact h.elim
 |succ n=>
  refine X.any (c7 (wP O R L i h) (λ r s₁ z=>?_) λ aa aa z=>z)
  cases r with
  |none=>exact PF.d8 g x z.1 z.2
  |some u=>exact aD z λ v z=>z.elim λ EU z=>X.any (t.go _ _ I u _ (Mo nm z.l) (X.any (c7 (t.ok JJ (F.now G ρ s₁) G ρ σ _ v u _ (O.now z.R) z.R.now z.vr z.k) (λ aa bp y=>y.elim λ aI y=>
    X.mono (b.ok cb (F.now G ρ s₁) G ρ aI bp _ (O.now z.R) y.1 y.2) λ f fW w=>w.u λ rP k9 fl dC kJ kQ lD fr fH=>have y:=z.R.over z.L lD
     match fl,fr,fH with
     | .d8,fr,fH=>(show f= .next from fr).symm▸⟨n,jo n,rP,k9,dC,EU,g.trans kJ,x.trans kQ,y.1,y.2.1,z.i.up kJ kQ y.2.2,z.e▸nm,fH⟩
     | .ret v,fr,fH=>aD fr λ w e=>e.1.symm▸⟨rP,k9, .ret v,dC,g.trans kJ,x.trans kQ,y.1,⟨w,rfl,e.2⟩,fH⟩) λ aa aa z=>z)))
def Uj(lz:aC)(set:AV->St->(St->Prop)->Prop)(b:Body)(v:AV)(σ:St)(K:Fl->St->Prop):Prop:=IQ v σ.mem (JN lz v λ ik=>∃N,jq set b N ik σ K)
inductive Ee where
 |fz (ts:ae TV)|own (p k:Nat)|j_ (n:Nat) (i c:Int)
def WN:Ee->IK->Prop
 | .fz ts,x=>∃k xs,x= .fz k xs/\dH ts xs
 | .own p k,x=>x= .own p k
 | .j_ n i c,x=>x= .j_ n i c
def GNx:aq (TV×Ee)->aq (AV×IK)->Prop
 |none,x=>x=none
 |some a,x=>∃b,x=af b/\GV a.1 b.1/\WN a.2 b.2
noncomputable def YX(p k:Nat)(t:aq TV):aq (TV×Ee):=match t with
 |some t=>af (t, .own p (k+1))
 |none=>none
noncomputable def oIx(o:TO):aq {r:ae Int // o= .ix r}:=match o with
 | .ix r=>af ⟨r,rfl⟩
 |_=>none
noncomputable def ixk:ae Int->Nat->aq TV
 |x::_,0=>af (.ex (.int x))
 |_::r,k+1=>ixk r k
 |[],_=>none
def Ke(ik:Ee)(m:ae TO):aq (aq (TV×Ee)):=match ik with
 | .fz []=>af none
 | .fz (t::r)=>af (af (t, .fz r))
 | .own p k=>ob (gU m p) λ o=>oe (ob (oLst o) λ vs=>af (YX p k (Rq vs.1 k))) (oe (ob (oIl o) λ q=>af (YX p k (omk (WB q.1 k)))) (ob (oIx o) λ r=>af (YX p k (ixk r.1 k))))
 | .j_ 0 _ _=>af none
 | .j_ (n+1) i c=>af (af (.ex (.int i), .j_ n (i+c) c))
where omk:aq (Int×Int)->aq TV
 |some q=>af (Sy q)
 |none=>none
def JT:aq TV->aq AV->Prop
 |none,w=>w=none
 |some t,w=>∃u,w=af u/\GV t u
theorem YY{p k:Nat}{w:aq AV}:∀{o:aq TV},JT o w->∃r',GNx (YX p k o) r'/\∀K:aq (AV×IK)->Prop,K r'->Va w p k K
 |none,g=>(show w=none from g)▸⟨none,rfl,λ aa z=>z⟩
 |some _,g=>aD g λ u z=>z.1▸⟨af (u, .own p (k+1)),⟨_,rfl,z.2,rfl⟩,λ aa z=>z⟩
theorem NL:∀{ts:ae TV} {us:ae AV} {i:Nat},dH ts us->JT (Rq ts i) (nP us i)
 |[],us,i,g=>g.u0 (Q:=λ us=>JT none (nP us i)) (by cases i<;>rfl)
 |_::_,us,0,g=>g.uc (Q:=λ us=>JT (af _) (nP us 0)) λ u aa gt aa=>⟨u,rfl,gt⟩
 |_::ts,us,i+1,g=>g.uc (Q:=λ us=>JT (Rq ts i) (nP us (i+1))) λ aa aa aa g=>NL g
theorem MN:∀{q:ae (Int×Int)} {r:ae Int} {i:Nat},q9 q r->JT (Ke.omk (WB q i)) (nP (bW r) i)
 |[],r,i,g=>g.u0 (Q:=λ r=>JT none (nP (bW r) i)) (by cases i<;>rfl)
 |_::_,r,0,g=>g.uc (Q:=λ r=>JT (af _) (nP (bW r) 0)) λ x aa h0 h1 aa=>⟨.int x,rfl,tR h0 h1⟩
 |_::q,r,i+1,g=>g.uc (Q:=λ r=>JT (Ke.omk (WB q i)) (nP (bW r) (i+1))) λ aa aa aa aa g=>MN g
theorem LQ:∀(r:ae Int) (k:Nat),JT (ixk r k) (nP (bW r) k)
 |[],k=>by cases k<;>rfl
 |x::_,0=>⟨.int x,rfl,rfl⟩
 |_::r,k+1=>LQ r k
theorem oe.u{α:Type}{x y:aq α}{a:α}{Q:Prop}(h:oe x y=af a)(k1:x=af a->Q)(k2:y=af a->Q):Q:=(sO h).elim k1 k2
abbrev NxT(r:aq (TV×Ee))(x:IK)(m':ae AO):Prop:=∃r',GNx r r'/\∀K:aq (AV×IK)->Prop,K r'->As x m' K
theorem Fh{p k:Nat}{w:aq AV}{o:aq TV}{r:aq (TV×Ee)}{m':ae AO}(e:af (YX p k o)=af r)(g:JT o w)(f:∀K,Va w p k K->As (.own p k) m' K):NxT r (.own p k) m':=am e▸(YY g).imp λ aa=> .imp_right λ h K z=>f K (h K z)
theorem Ga{ik:Ee}{m:ae TO}{r:aq (TV×Ee)}{x:IK}{m':ae AO}(h:Ke ik m=af r)(g:WN ik x)(gm:GM m m'):NxT r x m':=by
 cases ik with
 |fz ts=>
  exact aD g λ k z=>z.elim λ xs z=>z.1▸(match ts,z.2,h with
   |[],gx,h=>am h▸dH.u0 (Q:=λ xs=>NxT none (.fz k xs) m') gx ⟨none,rfl,λ K z=>z⟩
   |t::ts,gx,h=>am h▸gx.uc (Q:=λ xs=>NxT (af (t, .fz ts)) (.fz k xs) m') λ v us gv gu=>⟨af (v, .fz (k+1) us),⟨_,rfl,gv,_,_,rfl,gu⟩,λ K z=>z⟩)
 |own p k=>
  exact(show x= .own p k from g)▸ob.u h λ o ho h=>(gm.at ho).elim λ o' m1=>oe.u h
   (λ h=>ob.u h λ vs aa h=>aD (show GO m' (.lst vs.1) o' from vs.2▸m1.2) λ us q=>Fh h (NL q.2) λ K z=>dI m1.1 (q.1.symm▸z))
   λ h=>oe.u h (λ h=>ob.u h λ q aa h=>aD (show GO m' (.il q.1) o' from q.2▸m1.2) λ us e=>Fh h (MN e.2) λ K z=>dI m1.1 (e.1.symm▸z))
    λ h=>ob.u h λ r' aa h=>Fh h (LQ r'.1 k) λ K z=>dI m1.1 ((show o'= .il r'.1 from(r'.2▸m1.2:GO m' (.ix r'.1) o')).symm▸z)
 |j_ n i c=>
  exact(show x= .j_ n i c from g)▸(match n,h with
   |0,h=>am h▸⟨none,rfl,λ K z=>z⟩
   |n+1,h=>am h▸⟨af (.int i, .j_ n (i+c) c),⟨_,rfl,rfl,rfl⟩,λ K z=>z⟩)
def JY(v:AV)(ts:ae TV):Prop:=∃xs,v= .lst xs/\dH ts xs
theorem Me{h t:TV}{v:AV}{ts:ae TV}(k:∀v,GV t v->JY v ts)(g:GV (.lc h t) v):JY v (h::ts):=
 aD g λ y g=>g.elim λ ys g=>g.1▸(k _ g.2.2).elim λ xs z=>⟨_,rfl,y,ys,rfl,g.2.1,AV.lst.inj z.1▸z.2⟩
noncomputable def S3:(t:TV)->aq {ts:ae TV // ∀v,GV t v->JY v ts}
 | .ln=>af ⟨[],λ v g=>⟨[],g,rfl⟩⟩
 | .lc h t=>ob (S3 t) λ ts=>af ⟨h::ts.1,λ v g=>Me ts.2 g⟩
 | .ex (.lst xs)=>af ⟨yQ xs,λ v g=>⟨xs,g,lj xs⟩⟩
 |_=>none
def LO(o':AO)(K:Prop):Prop:=match o' with
 | .lst _=>K
 | .il _=>K
 |_=>False
noncomputable def acj(o:TO):aq {u:e9 // ∀m o',GO m o o'->∀K:Prop,K->LO o' K}:=match o with
 | .lst _=>af ⟨(),λ m o' g K k=>aD g λ aa g=>g.1▸k⟩
 | .il _=>af ⟨(),λ m o' g K k=>aD g λ aa g=>g.1▸k⟩
 | .ix _=>af ⟨(),λ m o' g K k=>(show o'= .il _ from g)▸k⟩
 |_=>none
noncomputable def adh(t:TV):aq {r:Int×Int×Int // t= .ex (.j_ r.1 r.2.1 r.2.2)}:=match t with
 | .ex (.j_ a b c)=>af ⟨(a,b,c),rfl⟩
 |_=>none
abbrev aa3(lz:aC)(t:TV)(s:AS)(ik:Ee):Prop:=∀v σ,GV t v->GS s σ->∃x,WN ik x/\∀K:IK->Prop,K x->IQ v σ.mem (JN lz v K)
def aIt(lz:aC)(t:TV)(s:AS):aq {ik:Ee // aa3 lz t s ik}:=
 oe (ob (S3 t) λ ts=>af ⟨.fz ts.1,λ v σ g gs=>(ts.2 v g).elim λ xs z=>z.1▸⟨.fz 0 xs,⟨0,xs,rfl,z.2⟩,λ K k=>k⟩⟩)
 (oe (ob (VZ t) λ r=>af ⟨.fz (yQ (bW r.1)),λ v σ g gs=>ly g r.2▸⟨.fz 0 (bW r.1),⟨0,_,rfl,lj _⟩,λ K k=>k⟩⟩)
 (oe (ob (adh t) λ r=>bE (lz&&Builtin.Range.small r.1.1 r.1.2.1 r.1.2.2) λ hb=>af ⟨.j_ (Builtin.Range.rangeSize r.1.1 r.1.2.1 r.1.2.2).toNat r.1.1 r.1.2.2,λ v σ g gs=>ly g r.2▸⟨_,rfl,λ K k=>cK.i hb k⟩⟩)
 (ob (nR t) λ p=>jN (gU s.mem p.1) λ o ho=>ob (acj o) λ u=>af ⟨.own p.1 0,λ v σ g gs=>ly g p.2▸(gs.mem.at ho).elim λ o' m1=>⟨.own p.1 0,rfl,λ K k=>dI m1.1 (u.2 _ _ m1.2 _ k)⟩⟩)))
noncomputable def Cg{set:AV->St->(St->Prop)->Prop}(st:(t:TV)->(s:AS)->aq {s':AS // yv set t s s'})(b:AS->aq (ae (AF×AS))):Nat->Ee->AS->aq (ae (AF×AS))
 |0,_,_=>none
 |n+1,ik,s=>ob (Ke ik s.mem) λ r=>match r with
  |none=>af [(.d8,s)]
  |some x=>ob (st x.1 s) λ s'=>bO (b s'.1) λ f s=>aFl f s (Cg st b n x.2)
theorem sC{set:AV->St->(St->Prop)->Prop}{st:(t:TV)->(s:AS)->aq {s':AS // yv set t s s'}}{ba:AS->aq (ae (AF×AS))}{b:Body}(hb:Ab ba b GF):∀(n:Nat) (ik:Ee) (x:IK),WN ik x->Ab (Cg st ba n ik) (jq set b n x) GF
 |0,_,_,_=>λ aa aa h=>nomatch h
 |n+1,ik,x,g=>λ s outs h σ gs=>ob.u h λ r e h=>(Ga e g gs.mem).elim λ r' z=>match r,z.1,h with
  |none,gr,h=>D2.one h rfl gs λ K w=>z.2 _ ((show r'=none from gr)▸w)
  |some y,gr,h=>aD gr λ q gq=>ob.u h λ s' aa h=>(s'.2 q.1 σ gq.2.1 gs).elim λ b7 k'=>
   (hb.bind h k'.1 λ f bp l₂ cW a aV ga og=>Eh (C:=λ aV K=>jq set b n q.2 aV K) (sC hb n y.2 q.2 gq.2.2) cW ga og).eq λ K w=>z.2 _ (gq.1.symm▸k'.2 _ w)
def Zt(t:TG P ct)(e:SE P ct)(b:SS P ct)(p:c9):SX P ct where
 bA:= .For t.bA e.bA b.bA [] p
 run:=λ σ K=>e.run σ λ v aI=>Uj t.lz t.set b.run v aI K
 ch:=vt 3 e.bA&&(t.ch&&(e.ch&&b.ch))
 ok:=λ c F G ρ σ s Kv O R h=>have d:=(xi (aF c).1).1; have c:=(aF c).2; X.For (d _) (X.mono (e.ok (aF (aF c).2).1 F G ρ σ s _ O R h) λ u s₁ z=>z.u λ dW c8 v aI fK fh dS va bH=>
  X.any (c7 (r4 O dS va bH) (λ i bp z=>z.elim λ I z=>z.elim λ ik z=>z.1▸z.2.h.elim λ N cW=>E8 (aF c).1 (aF (aF c).2).2 O N bp ⟨dW,c8,aI,ik,fK,fh,z.2.R,z.2.L,z.2.i,z.2.n,cW⟩) λ aa aa z=>z))
 ab:=Kh e.ab λ v s=>ob (aIt t.lz v s) λ ik=>Cg t.st b.ab 12 ik.1 s
 cO:=λ fo=>nJ fo λ v s outs a σ h ga gs=>ob.u h λ ik aa h=>(ik.2 a σ ga gs).elim λ x z=>(sC (b.cO fo) 12 ik.1 x z.1 s outs h σ gs).eq λ K w=>z.2 _ ⟨12,w⟩
end
namespace X
section
variable{α β:Type}{J:aC}{M:ir}{A:bn}{s:ar}{env:Env}
theorem Kp{m:ie α}{Q:Except ak α->ar->Prop}(h:cL J M A m (λ a s'=>Q (.ok a) s') s):cL J M A m.attempt Q s:=λ Γ p a c=>by
 rw[Sem.wp_attempt]
 exact oC M Γ m (λ aa aa aa z=>z) (λ aa aa aa f=>f.elim) p s (h Γ p a c)
def zU(J:aC)(M:ir)(A:bn)(use:aq (ak->ie e9))(Q:ak->ar->Prop)(acc:ak)(C:au)(s':ar):Prop:=match use with
 |none=>∃m,s'.heap.Ns C m/\∀h',kZ C s'.heap h'->Q acc {s' with heap:=h'}
 |some u=>cL J M A (u acc) (λ aa s''=>∃m,s''.heap.Ns C m/\∀h',kZ C s''.heap h'->Q .none {s'' with heap:=h'}) s'
theorem comprehension{e:aB}{scope:qK}{pos:c9}{Mq first:ie ak}{g:i6}{gs:ae i6}{cl:ae (bI×au)}{use:aq (ak->ie e9)}{Q:ak->ar->Prop}
  (hcl:clausesOf e=g::gs) (hs:∀x,ef g.iter env x=pure x) (X8:D8 scope env=pure cl) (yW:scope.kind= .function) (Uy:∀x∈scope.names,x.2= .local->scope.names.lookup x.1=af .local)
  (h:cL J M A first (λ x s₁=>cL J M A (iz x) (λ it bp=>cL J M A Mq (λ acc fW=>cL J M A (newFunctionEnv scope env.globals cl [] env.qual none .none (af env)) (λ cenv s7=>
    dP J M A (.compStart e 0 it acc {cenv with scope:=rK scope env}) (λ r s'=>match r with | .ok _=>zU J M A use Q acc cenv.locals s' | .error _=>False) s7) fW) bp) s₁) s):
  cL J M A (rH e scope env pos Mq false first use) Q s:=by
 unfold rH
 rw[X8,hcl]
 refine cM (mono h λ x s₁ bH=>at_ (cM (XF (hs x) (cM (holds (mono bH λ it bp cW=>?_))))))
 have ZI:∀{γ:Type} {c:Prop} [fD c] {pos:c9} {k:PUnit->ie γ} {Q:γ->ar->Prop} {s:ar},cL J M A (k ()) Q s->cL J M A (if c then (dp pos>>=k) else k ()) Q s:=λ{_ c _ _ _ _ _} h=>by
  by_cases q:c
  ·rw[dq q]; exact at_ h
  ·rw[bC q]; exact h
 refine ZI (cM (mono cW λ acc fW fH=>cM (ret (cM (mono fH λ cenv s7 nN=>?_)))))
 dsimp only
 have hv:∀l:ae (bI×dJ),(∀x∈l,x∈scope.names.filter λ x=>(x.2== .local||x.2== .cell)&&x.1 !=(".0":bI))->∀x∈l,x.2= .local->Env.kindOf {cenv with scope:=rK scope env} x.1=af .local:=
  λ l hl x hx e=>lookup_relabel_local (Uy x (List.mem_filter.mp (hl x hx)).1 e)
 refine holds (cM (Kp (holds (runs rfl (el nN λ r s' hr=>?_)))))
 cases r with
 |error x=>exact hr.elim
 |ok f=>
  cases use with
  |none=>
   obtain⟨m,hn,hr⟩:=hr
   exact cM (holds (any (wpAny_comp_letGo (cenv:={cenv with scope:=rK scope env}) yW _ s' m (hv _ λ x hx=>u_.mp hx) hn λ h' m' aa Yg=>ret (hr h' Yg))))
  |some u=>
   refine cM (any (mC (cM (holds (mono hr λ aa s'' hr'=>?_)))))
   obtain⟨m,hn,hr'⟩:=hr'
   refine cM (any (wpAny_comp_letGo (cenv:={cenv with scope:=rK scope env}) yW _ s'' m (hv _ λ x hx=>?_) hn λ h' m' aa Yg=>ret (hr' h' Yg)))
   rcases fQ.mp hx with h1|h1
   ·exact u_.mp (FW h1)
   ·exact u_.mp (FX h1)
end
section
variable{J:aC}{prog:aK}{w:bw}{A:bn}{s:ar}{R:iQ->ar->Prop}{elt:aB}{gens:ae i6}{scope:qK}{pos:c9}{depth:Nat}{it acc:ak}{env:Env}
theorem compStart(ha:((gens)[depth]?).elim false (λ g=>g.is_async !=0)=false)
  (h0:dP J (aE prog w) A (.compLoop (.ListComp elt gens scope pos) depth it acc env) R s)
  (h:cL J (aE prog w) A (iz it) (λ wH s'=>dP J (aE prog w) A (.compLoop (.ListComp elt gens scope pos) depth wH acc env) R s') s):
  dP J (aE prog w) A (.compStart (.ListComp elt gens scope pos) depth it acc env) R s:=by
 refine tree ?_
 show cL J _ A ((PySem.compStart (.ListComp elt gens scope pos) depth it acc env).onRaise (λ x=>do qO x env; dp theWindowsPlace)) _ s
 refine raises ?_
 unfold PySem.compStart
 have e:((clausesOf (.ListComp elt gens scope pos))[depth]?).elim false (·.is_async !=0)=false:=ha
 rw[e]
 show cL J _ A (ask>>=_) _ s
 refine cM (any (iA ?_))
 have fin:∀{wH:ak} {s':ar},dP J (aE prog w) A (.compLoop (.ListComp elt gens scope pos) depth wH acc env) R s'->cL J (aE prog w) A (qM (.compLoop (.ListComp elt gens scope pos) depth wH acc env))
   (λ fin s'=>match fin with | .done f=>R (.ok f) s' | .again c'=>c'.quiet=true/\C8 c'=true/\dP J (aE prog w) A c' R s') s':=λ h=>ret ⟨rfl,rfl,h⟩
 split
 ·exact fin h0
 ·refine cM (any (mC ?_))
  dsimp only
  split
  ·refine at_ (cM (mono h λ wH s' h'=>fin h'))
  ·exact cM (mono h λ wH s' h'=>fin h')
theorem compLoop{t:aB}{tail:ie PySem.Fin}(ip:c9)(ht:mY (.ListComp elt gens scope pos) depth it acc env=(dp ip>>=λ aa=>gL it>>=λ r=>match r with
   |none=>pure (.done .next)
   |some v=>dy t it v>>=λ aa=>assign t env v>>=λ aa=>tail))
  (I:Nat->ar->Prop)
  (turn:∀n s,I n s->cL J (aE prog w) A (gL it) (λ r s₁=>match r with
   |none=>R (.ok .next) s₁
   |some v=>cL J (aE prog w) A (dy t it v) (λ aa Nu=>cL J (aE prog w) A (assign t env v) (λ aa bp=>cL J (aE prog w) A tail (λ fin fW=>fin= .again (.compLoop (.ListComp elt gens scope pos) depth it acc env)/\∃m,m < n/\I m fW) bp) Nu) s₁) s)
  (n:Nat) (h:I n s):dP J (aE prog w) A (.compLoop (.ListComp elt gens scope pos) depth it acc env) R s:=by
 induction n using xN generalizing s with
 |ind n ih=>
  refine tree ?_
  show cL J _ A ((mY (.ListComp elt gens scope pos) depth it acc env).onRaise (λ x=>do qO x env; k6 x)) _ s
  refine raises ?_
  rw[ht]
  refine at_ (cM (mono (turn n s h) λ r s₁ bH=>?_))
  cases r with
  |none=>exact ret bH
  |some v=>
   refine cM (mono bH λ aa bp cW=>cM (mono cW λ aa fW fH=>mono fH λ fin s7 nN=>?_))
   obtain⟨rfl,m,hm,hI⟩:=nN
   exact⟨rfl,rfl,ih m hm hI⟩
noncomputable def wl(elt:aB)(env:Env)(acc:ak):ie e9:=do let _ ← call (.builtin "list.append") [acc,← eval elt env]
theorem ZZ{t i:aB}:mY (.ListComp elt [⟨t,i,[],0⟩] scope pos) 0 it acc env=(dp i.pos>>=λ aa=>gL it>>=λ r=>match r with
   |none=>pure (.done .next)
   |some v=>dy t it v>>=λ aa=>assign t env v>>=λ aa=>(wl elt env acc>>=λ aa=>qM (.compLoop (.ListComp elt [⟨t,i,[],0⟩] scope pos) 0 it acc env))):=by rfl
theorem V6{t i c:aB}:mY (.ListComp elt [⟨t,i,[c],0⟩] scope pos) 0 it acc env=(dp i.pos>>=λ aa=>gL it>>=λ r=>match r with
   |none=>pure (.done .next)
   |some v=>dy t it v>>=λ aa=>assign t env v>>=λ aa=>(do
     let s ← forIn [c] true λ c s=>if s=true then (kU c env (eval c env)>>=λ ok=>pure (oz ok)) else pure (oz s)
     if s=true then (wl elt env acc>>=λ aa=>qM (.compLoop (.ListComp elt [⟨t,i,[c],0⟩] scope pos) 0 it acc env)) else qM (.compLoop (.ListComp elt [⟨t,i,[c],0⟩] scope pos) 0 it acc env))):=by rfl
theorem V7{t i:aB}{g:i6}:mY (.ListComp elt [g,⟨t,i,[],0⟩] scope pos) 1 it acc env=(dp i.pos>>=λ aa=>gL it>>=λ r=>match r with
   |none=>pure (.done .next)
   |some v=>dy t it v>>=λ aa=>assign t env v>>=λ aa=>(wl elt env acc>>=λ aa=>qM (.compLoop (.ListComp elt [g,⟨t,i,[],0⟩] scope pos) 1 it acc env))):=by rfl
theorem Rk{t i t' i':aB}{cs:ae aB}:mY (.ListComp elt [⟨t,i,[],0⟩,⟨t',i',cs,0⟩] scope pos) 0 it acc env=(dp i.pos>>=λ aa=>gL it>>=λ r=>match r with
   |none=>pure (.done .next)
   |some v=>dy t it v>>=λ aa=>assign t env v>>=λ aa=>(do
     let x ← eval i' env
     dp i'.pos
     let x ← ef i' env x
     let _ ← runOwn (.compStart (.ListComp elt [⟨t,i,[],0⟩,⟨t',i',cs,0⟩] scope pos) 1 (← holding [x] (iz x)) acc env) env
     qM (.compLoop (.ListComp elt [⟨t,i,[],0⟩,⟨t',i',cs,0⟩] scope pos) 0 it acc env))):=by rfl
end
end X
noncomputable def Np(env:Env)(p:bI×dJ)(acc:ae (bI×au)):ae (bI×au):=if p.2== .free then (match env.cells.lookup p.1 with|some c=>(p.1,c)::acc|none=>acc) else acc
noncomputable def kG(env:Env):ae (bI×dJ)->ae (bI×au)->ae (bI×au)
 |[],acc=>acc
 |p::r,acc=>kG env r (Np env p acc)
theorem Np.u{env:Env}{p:bI×dJ}{acc:ae (bI×au)}{Q:ae (bI×au)->Prop}(k0:Q acc)(k1:∀c,env.cells.lookup p.1=af c->Q ((p.1,c)::acc)):Q (Np env p acc):=by
 unfold Np
 split
 ·cases e:env.cells.lookup p.1 with
  |none=>exact k0
  |some c=>exact k1 c e
 ·exact k0
theorem Nq{env:Env}{n:bI}{c:au}{acc:ae (bI×au)}(h:env.cells.lookup n=af c):Np env (n, .free) acc=(n,c)::acc:=by
 unfold Np
 rw[h]; rfl
noncomputable abbrev Sub(env:Env)(acc:ae (bI×au)):Prop:=∀y d,acc.lookup y=af d->env.cells.lookup y=af d
theorem Nr{env:Env}{n:bI}{c:au}{acc:ae (bI×au)}(h:Sub env acc)(hc:env.cells.lookup n=af c):Sub env ((n,c)::acc):=λ y d q=>by
 rw[f5] at q
 cases e:y==n with
 |true=>rw[e] at q; exact(ah (λ x=>env.cells.lookup x) (a4.mp e)).trans (hc.trans q)
 |false=>rw[e] at q; exact h y d q
theorem HH{env:Env}{p:bI×dJ}{acc:ae (bI×au)}(h:Sub env acc):Sub env (Np env p acc):=Np.u (Q:=Sub env) h λ aa=>Nr h
theorem wf{scope:qK}{env:Env}(h:∀x∈scope.names,x.2= .free->∃c,env.cells.lookup x.1=af c):D8 scope env=pure (kG env scope.names []):=by
 have go:∀(l:ae (bI×dJ)) (acc:ae (bI×au)),(∀x∈l,x.2= .free->∃c,env.cells.lookup x.1=af c)->
   (forIn l acc λ(x:bI×dJ) (cs:ae (bI×au))=>(do
    if x.2== .free then do
     let c ← cellOf env x.1
     pure (oz ((x.1,c)::cs))
    else pure (oz cs):ie _))=(pure (kG env l acc):ie _):=by
  intro l
  induction l with
  |nil=>intro acc _; rfl
  |cons x r ih=>
   intro acc hx
   obtain⟨n,k⟩:=x
   rw[xD]
   show _=pure (kG env r (Np env (n,k) acc))
   unfold Np
   by_cases hk:(k==xG)=true
   ·obtain⟨c,hc⟩:=hx (n,k) aR (by simpa using hk)
    simp only[hk,if_true,hc]
    have e:cellOf env n=pure c:=by unfold cellOf; rw[hc]
    rw[e]
    exact ih _ λ y hy=>hx y (aP _ hy)
   ·simp only[hk]
    exact ih _ λ y hy=>hx y (aP _ hy)
 unfold D8
 have:=go scope.names [] h
 exact(ah (λ m=>m>>=λ cs=>pure cs) this).trans rfl
theorem rU{env:Env}:∀(l:ae (bI×dJ)) (acc:ae (bI×au)),(∀x c,acc.lookup x=af c->env.cells.lookup x=af c)->∀x c,(kG env l acc).lookup x=af c->env.cells.lookup x=af c
 |[],_,h=>h
 |_::r,_,h=>rU r _ (HH h)
theorem Lp{x n:bI}{c:au}{acc:ae (bI×au)}(h:(acc.lookup x).isSome=true):(((n,c)::acc).lookup x).isSome=true:=by
 rw[f5]
 cases x==n
 ·exact h
 ·rfl
theorem Lq{x:bI}{c:au}{acc:ae (bI×au)}:(((x,c)::acc).lookup x).isSome=true:=by
 rw[f5,qP]; rfl
theorem tJ{env:Env}{x:bI}{c:au}(hc:env.cells.lookup x=af c):∀(l:ae (bI×dJ)) (acc:ae (bI×au)),(∀y d,acc.lookup y=af d->env.cells.lookup y=af d)->(acc.lookup x).isSome=true\/(x,xG)∈l->(kG env l acc).lookup x=af c
 |[],acc,h,q=>(jv.mp (q.resolve_right bK)).elim λ d hd=>hd.trans ((h x d hd).symm.trans hc)
 |p::r,acc,h,q=>tJ hc r _ (HH h) (q.elim (λ q=> .inl (Np.u (Q:=λ acc=>(acc.lookup x).isSome=true) q λ aa aa=>Lp q)) λ m=>(bQ.mp m).elim (λ e=> .inl (e▸(ah (λ a=>(a.lookup x).isSome=true) (Nq (acc:=acc) hc)).mpr Lq)) .inr)
noncomputable def Fp(outer:ae (bI×dJ))(l:ae (bI×dJ)):ae (bI×dJ):=l.map λ x=>if x.2== .free&&outer.lookup x.1==af .cell then (x.1, .cell) else x
structure xH where
 scope:qK
 aS:ae bI
 src:ae (aq Nat)
noncomputable def xH.ct(B:xH)(ct:Ct):Ct:=⟨Fp ct.names B.scope.names,B.aS,true,false,false⟩
noncomputable def DA(ct:Ct)(scope:qK):ae bI->ae (aq Nat)->aC
 |x::r,none::t=>(scope.names.lookup x==af .local)&&DA ct scope r t
 |x::r,af i::t=>(ct.aS[i]?==af x)&&(scope.names.lookup x==af .free)&&(ct.names.lookup x==af .cell)&&DA ct scope r t
 |[],[]=>true
 |_,_=>false
noncomputable def wR:ae bI->aC
 |[]=>true
 |x::r=>!r.contains x&&wR r
theorem qA:∀{l:ae bI},wR l=true->l.Nodup
 |[],_=>gA
 |x::r,h=>dU.mpr ⟨λ m=>ay ((ah (!·) (D1.mpr m)).symm.trans (aF h).1),qA (aF h).2⟩
def xH.ok(B:xH)(ct:Ct):aC:=(B.scope.kind== .function)&&DA ct B.scope B.aS B.src&&wR B.aS&&
 B.scope.names.all (λ x=>(x.2 != .cell)&&(x.2 != .local||B.scope.names.lookup x.1==af .local)&&(x.2 != .free||(ct.names.lookup x.1==af .cell)))
noncomputable def sH(l:ae AV):ae (aq Nat)->ae AV
 |none::r=> .undef::sH l r
 |some i::r=>fC l i::sH l r
 |[]=>[]
theorem tX{ct:Ct}{scope:qK}:∀{aS:ae bI} {src:ae (aq Nat)} {l:ae AV} {i:Nat} {x:bI} {v:AV},DA ct scope aS src=true->aS[i]?=af x->(sH l src)[i]?=af v->v≠ .undef->
  ∃j,ct.aS[j]?=af x/\scope.names.lookup x=af .free/\ct.names.lookup x=af .cell/\fC l j=v
 |_::_,none::_,_,0,_,_,_,_,e2,n=>bt (am e2).symm n
 |_::r,none::t,l,i+1,_,_,h,e1,e2,n=>tX (aS:=r) (src:=t) (i:=i) (aF h).2 e1 e2 n
 |_::_,af j::_,_,0,_,_,h,e1,e2,_=>have h1:=aF (aF h).1; have h2:=aF h1.1
  ⟨j,(a4.mp h2.1).trans e1,am e1▸a4.mp h2.2,am e1▸a4.mp h1.2,am e2⟩
 |_::r,af _::t,l,i+1,_,_,h,e1,e2,n=>tX (aS:=r) (src:=t) (i:=i) (aF h).2 e1 e2 n
 |[],_,_,_,_,_,_,e1,_,_=>cu e1
 |_::_,[],_,_,_,_,h,_,_,_=>nomatch h
noncomputable def Zj(outer:ae (bI×dJ))(n:bI)(k:dJ):dJ:=if k== .free&&outer.lookup n==af .cell then .cell else k
theorem Vp{outer:ae (bI×dJ)}(x:bI×dJ):(if x.2== .free&&outer.lookup x.1==af .cell then (x.1, .cell) else x)=(x.1,Zj outer x.1 x.2):=by
 unfold Zj
 split<;>rfl
theorem mI{outer:ae (bI×dJ)}:∀{l:ae (bI×dJ)} {x:bI},(Fp outer l).lookup x=(l.lookup x).map λ k=>if k== .free&&outer.lookup x==af .cell then .cell else k
 |[],_=>rfl
 |p::r,x=>by
  have ih:=@mI outer r x
  show((if p.2== .free&&outer.lookup p.1==af .cell then (p.1,NameKind.cell) else p)::Fp outer r).lookup x=(((p.1,p.2)::r).lookup x).map _
  rw[Vp,f5,f5]
  cases hx:x==p.1 with
  |true=>rw[a4.mp hx]; rfl
  |false=>exact ih
section
variable{P:cC}{ct:Ct}
noncomputable def pn(F:Fd)(B:xH)(C:au)(s:ar)(ρ:ae au)(G:BM):Fd:=
 {A:=F.A,env:={newEnv B.scope C F.env.globals (kG F.env B.scope.names []) F.env.qual none .none (af F.env) la with scope:=rK B.scope F.env},h₀:=s.heap,gJ:=ρ,G₀:=G,Z:=s,ro:=true}
theorem yC{B:xH}(h:B.ok ct=true):B.scope.kind= .function/\DA ct B.scope B.aS B.src=true/\B.aS.Nodup/\(∀x∈B.scope.names,x.2≠ .cell)/\(∀x∈B.scope.names,x.2= .local->B.scope.names.lookup x.1=af .local)/\(∀x∈B.scope.names,x.2= .free->ct.names.lookup x.1=af .cell):=by
 have h1:=aF h; have h2:=aF h1.1; have h3:=aF h2.1
 have d:=λ x hx=>aF (aY.mp h1.2 x hx)
 exact⟨a4.mp h3.1,h3.2,qA h2.2,λ x hx=>rO.mp (aF (d x hx).1).1,λ x hx e=>a4.mp (((g8).mp (aF (d x hx).1).2).resolve_left λ n=>rO.mp n e),λ x hx e=>a4.mp (((g8).mp (d x hx).2).resolve_left λ n=>rO.mp n e)⟩
theorem rn{B:xH}{F:Fd}(O:gM P ct F):(rK B.scope F.env).names=Fp ct.names B.scope.names:=by
 unfold rK Fp
 refine sk λ x aa=>?_
 obtain⟨n,k⟩:=x
 have e:F.env.kindOf n=ct.names.lookup n:=by unfold Env.kindOf; rw[O.names]
 show(if (k== .free&&F.env.scope.kind== .function&&F.env.kindOf n==af .cell)=true then (n,NameKind.cell) else (n,k))=_
 rw[O.kind,e]
 simp
theorem Iq{B:xH}(hb:B.ok ct=true){F:Fd}{G:BM}{ρ ρ':ae au}{σ:St}{mem':ae AO}{s s' s'':ar}{C:au}(O:gM P ct F)(R:RF F ct.aS G ρ σ s)(x:Ext ρ ρ')
  (R':RF F ct.aS G ρ' ⟨σ.loc,mem'⟩ s') (k':∀b o,s.heap.get? b=af o->s'.heap.get? b=af o) (z':s'.gens=s.gens/\s'.gens=s.gens/\s'.os=s.os) (nw:∀a∈ρ',a∈ρ\/s.heap.get? a=none)
  (hC:s'.heap.get? C=none) (hn:s''.heap.Ns C (λ aa=>none)) (k:∀b o,s'.heap.get? b=af o->s''.heap.get? b=af o) (z:s''.gens=s'.gens/\s''.gens=s'.gens/\s''.os=s'.os):
  gM P (B.ct ct) (pn F B C s ρ G)/\RF (pn F B C s ρ G) B.aS G ρ' ⟨sH σ.loc B.src,mem'⟩ s'':=by
 obtain⟨b1,b2,b3,b4,b5,b6⟩:=yC hb
 have kn:∀y,(pn F B C s ρ G).env.kindOf y=(Fp ct.names B.scope.names).lookup y:=λ y=>by show(rK B.scope F.env).names.lookup y=_; rw[rn O]
 have lk:∀y c,(kG F.env B.scope.names []).lookup y=af c->F.env.cells.lookup y=af c:=λ y c e=>rU _ [] (λ aa aa q=>by cases q) y c e
 have kF:∀y,F.env.kindOf y=ct.names.lookup y:=λ y=>by unfold Env.kindOf; rw[O.names]
 have cellK:∀y,(Fp ct.names B.scope.names).lookup y=af .cell->(y,xG)∈B.scope.names/\ct.names.lookup y=af .cell:=λ y e=>by
  rw[mI] at e
  obtain⟨kk,e1,e2⟩:=eK.mp e
  have hm:=mem_of_lookup e1
  split at e2
  ·rename_i q
   rw[jg,a4,a4] at q
   rw[q.1] at hm
   exact⟨hm,q.2⟩
  ·subst e2; exact bt rfl (b4 _ hm)
 have ne:∀a o,s'.heap.get? a=af o->a≠C:=λ a o e q=>by subst q; rw[hC] at e; cases e
 have Gn:G C=none:=by
  cases e:G C with
  |none=>rfl
  |some o=>have:=R'.rm.kg C o e; rw[hC] at this; cases this
 refine⟨⟨b1,?_,O.glob,O.blt,O.room,R.i8 O,b3,rfl,λ y e=>?_,λ e=>(nomatch e),λ e=>(nomatch e)⟩,⟨R'.rm.keeps k,⟨_,hn⟩,λ i y v e e' n=>?_,Gn,λ hm=>?_,λ y c e=>?_,λ y y' c e e'=>R.p6 y y' c (lk _ _ e) (lk _ _ e'),λ a o aa aa e=>k a o (k' a o e),λ a o e=>⟨o,k a o (k' a o e)⟩,x,nw,dG.refl _,λ aa aa e=> .inl e,?_⟩⟩
 ·show(rK B.scope F.env).names=_; exact rn O
 ·obtain⟨hm,hc⟩:=cellK y e
  obtain⟨c,hc'⟩:=O.cells y hc
  exact⟨c,tJ hc' _ [] (λ aa aa q=>by cases q) (.inr hm)⟩
 ·obtain⟨j,j1,j2,j3,j4⟩:=tX b2 e e' n
  obtain⟨u,vu,a⟩:=R'.loc j y v j1 (qy _ _ _ j4 n) n
  refine⟨u,vu,?_⟩
  rcases a with⟨ka,_⟩|⟨_,c,hc,hv⟩
  ·rw[kF,j3] at ka; cases ka
  ·refine .inr ⟨.inl ?_,c,tJ hc _ [] (λ aa aa q=>by cases q) (.inr (mem_of_lookup j2)),hv.keeps k⟩
   rw[kn,mI,j2,j3]; rfl
 ·obtain⟨o,ho⟩:=R'.rm.some_of hm; rw[show(pn F B C s ρ G).env.locals=C from rfl,hC] at ho; cases ho
 ·obtain⟨c1,c2,⟨v,hv⟩,c4⟩:=R'.cell y c (lk _ _ e)
  obtain⟨o,ho,_⟩:=id hv
  exact⟨ne c o ho,c2,⟨v,hv.keeps k⟩,λ q=>c4 (by rw[kF]; rw[kn] at q; exact(cellK y q).2)⟩
 ·have h1:s''.gens=s.gens:=z.1.trans z'.1
  exact GZ.of ⟨h1,h1,z.2.2.trans z'.2.2⟩
theorem Kx{B:xH}{F:Fd}{G G':BM}{ρ ρ':ae au}{σ b7:St}{s s' s'':ar}{C:au}(O:gM P ct F)(R:RF F ct.aS G ρ σ s)(hC:s.heap.get? C=none)(R':RF (pn F B C s ρ G) B.aS G' ρ' b7 s')
  (k:∀b o,b≠C->s'.heap.get? b=af o->s''.heap.get? b=af o) (z:s''.gens=s'.gens/\s''.gens=s'.gens/\s''.os=s'.os):RF F ct.aS G' ρ' ⟨σ.loc,b7.mem⟩ s'':=by
 have kp:∀a o,a∉ρ->s.heap.get? a=af o->s''.heap.get? a=af o:=λ a o n e=>
  k a o (λ q=>by subst q; rw[hC] at e; cases e) (R'.keep a o n ⟨λ q=>(by rw[q] at e; rw[show(pn F B C s ρ G).env.locals=C from rfl,hC] at e; cases e),λ q=>(by cases q)⟩ e)
 refine R.HF R'.ext R'.Cp (R'.rm.HG λ a o q e=>k a o (λ h=>?_) e) R'.nw R'.Bh kp ?_
 ·subst h
  rcases q with q|q
  ·exact R'.Bi q
  ·have:=R'.lG; rw[show(pn F B a s ρ G).env.locals=a from rfl,q] at this; cases this
 ·exact R'.gz.trans (GZ.of z)
end
section
variable{P:cC}{ct:Ct}
theorem wI{F:Fd}{G:BM}{ρ:ae au}{s:ar}{I:au}{ik:IK}{Q:ak->ar->Prop}(it:Ia G ρ s.heap I ik)(q:Q (.ref I) s):aH (aE P.prog P.w) F.A (iz (.ref I)) Q dw s:=by
 cases ik with
 |fz k rest=>exact ItF.casesOn (motive:=λ aa=>aH (aE P.prog P.w) F.A (iz (.ref I)) Q dw s) it λ aa aa aa aa i aa aa aa aa=>wpAny_pyIter_listiter i q
 |own p k=>exact aD it λ l z=>wpAny_pyIter_listiter z.2 q
 |j_ n i c=>exact wpAny_pyIter_rangeiter it q
 |keys k rest=>exact ItD.casesOn (motive:=λ aa=>aH (aE P.prog P.w) F.A (iz (.ref I)) Q dw s) it λ aa aa aa aa aa aa aa aa aa aa i aa=>wpAny_pyIter_keyiter i q
noncomputable abbrev JD:=St->(St->Prop)->Prop
noncomputable def li(set:AV->St->(St->Prop)->Prop)(b:JD):Nat->IK->St->(St->Prop)->Prop
 |0,_,_,_=>False
 |n+1,ik,σ,K=>As ik σ.mem λ r=>match r with
  |none=>K σ
  |some x=>set x.1 σ λ aI=>b aI λ aV=>li set b n x.2 aV K
inductive PT(F:Fd)(aS:ae bI)(G:BM)(ρ:ae au)(K:St->Prop)(s':ar):Prop
 |mk (G':BM) (ρ':ae au) (b7:St) (g:dG G G') (x:Ext ρ ρ') (R:RF F aS G' ρ' b7 s') (k:K b7)
theorem PT.u{F:Fd}{aS:ae bI}{G:BM}{ρ:ae au}{K:St->Prop}{s:ar}{Q:Prop}(z:PT F aS G ρ K s)(k:∀G' ρ' b7,dG G G'->Ext ρ ρ'->RF F aS G' ρ' b7 s->K b7->Q):Q:=PT.casesOn (motive:=λ aa=>Q) z k
theorem PT.up{F:Fd}{aS:ae bI}{G G':BM}{ρ ρ':ae au}{K:St->Prop}{s:ar}(g:dG G G')(x:Ext ρ ρ')(h:PT F aS G' ρ' K s):PT F aS G ρ K s:=
 h.u λ a b c d e f k=>⟨a,b,c,g.trans d,x.trans e,f,k⟩
def Piece(P:cC)(ct:Ct)(A:bn)(env:Env)(D:au)(p:Nat)(b:JD)(t:ie e9):Prop:=
 ∀F,F.A=A->F.env=env->gM P ct F->∀G ρ σ s K,RF F ct.aS G ρ σ s->ρ[p]?=af D->b σ K->WP P F.A t (λ aa s'=>PT F ct.aS G ρ K s') s
def sB(elt:SE P ct)(p:Nat):JD:=λ σ K=>elt.run σ λ v aI=>pG aI.mem p λ o=>match o with
 | .lst xs=>cK (bB xs.length 1000000) (K (aI.put p (.lst (xs++[v]))))
 |_=>False
theorem rW{elt:SE P ct}(c:elt.ch=true){A:bn}{env:Env}{D:au}{p:Nat}:Piece P ct A env D p (sB elt p) (X.wl elt.bA env (.ref D)):=λ F hA he O G ρ σ s K R hp h=>by
 subst hA he
 unfold X.wl
 refine X.cM (X.mono (elt.ok c F G ρ σ s _ O R h) λ v s₁ z=>z.u λ dW c8 a aI fK fh dS va bH=>bH.u λ ao e bH=>(dS.rm.obj _ _ _ (fh.get hp) ((eL ..).symm.trans e)).elim λ ob q=>?_)
 rcases ao with xs|_|_|_|_|_|_|_
 case lst=>
  exact bH.u λ hz bH=>q.2.elim λ vs w=>X.cM (X.any (JB (w.1.plain q.1) (λ h' L' sb=>(iY.of L').elim λ o' y=>
    X.ret ⟨dW,c8,_,fK,fh,dS.rx (v8:= .lst (xs++[a])) (s':={s₁ with heap:=h'}) (fh.get hp) y.1 ⟨vs.push v,y.2,Jr.symm▸w.2.append (.cons va .nil)⟩ (λ b o n e=>sb.extBut b o n e) ⟨rfl,rfl,rfl⟩,bH⟩)
   (aG (aU (bh.symm.trans w.2.length)) (aG (aQ hz) (dZ.symm▸(by decide:1000000<=16777216))))))
 all_goals exact bH.elim
inductive CpI{P:cC}{ct:Ct}(t:TG P ct)(b:JD)(p:Nat)(D:au)(F:Fd)(G₀:BM)(gJ:ae au)(K:St->Prop)(I:au)(n:Nat)(s:ar):Prop
 |mk (G:BM) (ρ:ae au) (σ:St) (ik:IK) (g:dG G₀ G) (x:Ext gJ ρ) (R:RF F ct.aS G ρ σ s) (hp:ρ[p]?=af D) (L:Loose F G ρ s I) (i:Ia G ρ s.heap I ik) (nm:po ik=true\/t.lz=true) (h:li t.set b n ik σ K)
theorem yL{t:TG P ct}{b:JD}{elt:aB}{gens:ae i6}{scope:qK}{pos ip:c9}{depth:Nat}{D I:au}{p:Nat}{F:Fd}{pc:ie e9}
  (ht:mY (.ListComp elt gens scope pos) depth (.ref I) (.ref D) F.env=(dp ip>>=λ aa=>gL (.ref I)>>=λ r=>match r with
   |none=>pure (.done .next)
   |some v=>dy t.bA (.ref I) v>>=λ aa=>assign t.bA F.env v>>=λ aa=>(pc>>=λ aa=>qM (.compLoop (.ListComp elt gens scope pos) depth (.ref I) (.ref D) F.env))))
  (tc:t.ch=true) (pk:Piece P ct F.A F.env D p b pc) (O:gM P ct F) {G₀:BM} {gJ:ae au} {K:St->Prop} (n:Nat) (s:ar) (q:CpI t b p D F G₀ gJ K I n s):
  dP P.j (aE P.prog P.w) F.A (.compLoop (.ListComp elt gens scope pos) depth (.ref I) (.ref D) F.env) (λ r s'=>match r with | .ok _=>PT F ct.aS G₀ gJ K s' | .error _=>False) s:=by
 refine X.compLoop ip ht (CpI t b p D F G₀ gJ K I) (λ n s q=>?_) n q
 cases q with|mk G ρ σ ik g x R hp L i nm h=>
 cases n with
 |zero=>exact h.elim
 |succ n=>
  refine X.any (c7 (wP O R L i h) (λ r s₁ z=>?_) λ aa aa z=>z)
  cases r with
  |none=>exact⟨G,ρ,σ,g,x,z.1,z.2⟩
  |some u=>exact aD z λ v z=>z.elim λ EU z=>X.any (t.go _ _ I u _ (Mo nm z.l) (X.any (c7 (t.ok tc (F.now G ρ s₁) G ρ σ _ v u _ (O.now z.R) z.R.now z.vr z.k) (λ aa bp y=>y.elim λ aI y=>
    X.cM (X.mono (pk (F.now G ρ s₁) rfl rfl (O.now z.R) G ρ aI bp _ y.1 hp y.2) λ aa fW w=>w.u λ rP k9 dC kJ kQ lD fH=>have y:=z.R.over z.L lD
     X.ret ⟨rfl,n,jo n,rP,k9,dC,EU,g.trans kJ,x.trans kQ,y.1,kQ.get hp,y.2.1,z.i.up kJ kQ y.2.2,z.e▸nm,fH⟩)) λ aa aa z=>z)))
theorem zm{α β γ:Type}(m:ie α)(f:α->ie β)(g:β->ie γ):m>>=f>>=g=m>>=λ a=>f a>>=g:=by
 simp only[iX,jZ]; rfl
theorem bc{α β:Type}{m:ie α}{f g:α->ie β}(h:∀a,f a=g a):m>>=f=m>>=g:=by rw[funext h]
theorem Rj{t i c elt:aB}{scope:qK}{pos:c9}{it acc:ak}{env:Env}:mY (.ListComp elt [⟨t,i,[c],0⟩] scope pos) 0 it acc env=(dp i.pos>>=λ aa=>gL it>>=λ r=>match r with
   |none=>pure (.done .next)
   |some v=>dy t it v>>=λ aa=>assign t env v>>=λ aa=>((kU c env (eval c env)>>=λ ok=>if ok=true then X.wl elt env acc else pure ())>>=λ aa=>qM (.compLoop (.ListComp elt [⟨t,i,[c],0⟩] scope pos) 0 it acc env))):=by
 rw[X.V6]
 refine bc λ aa=>bc λ r=>?_
 cases r with
 |none=>rfl
 |some v=>
  refine bc λ aa=>bc λ aa=>?_
  rw[xD]
  simp only[if_true]
  simp only[zm]
  refine bc λ b=>?_
  cases b<;>rfl
theorem ND{t i t' i' elt:aB}{cs:ae aB}{scope:qK}{pos:c9}{it acc:ak}{env:Env}:mY (.ListComp elt [⟨t,i,[],0⟩,⟨t',i',cs,0⟩] scope pos) 0 it acc env=(dp i.pos>>=λ aa=>gL it>>=λ r=>match r with
   |none=>pure (.done .next)
   |some v=>dy t it v>>=λ aa=>assign t env v>>=λ aa=>((do
     let x ← eval i' env
     dp i'.pos
     let x ← ef i' env x
     let _ ← runOwn (.compStart (.ListComp elt [⟨t,i,[],0⟩,⟨t',i',cs,0⟩] scope pos) 1 (← holding [x] (iz x)) acc env) env
     pure ())>>=λ aa=>qM (.compLoop (.ListComp elt [⟨t,i,[],0⟩,⟨t',i',cs,0⟩] scope pos) 0 it acc env))):=by
 rw[X.Rk]
 refine bc λ aa=>bc λ r=>?_
 cases r with
 |none=>rfl
 |some v=>
  refine bc λ aa=>bc λ aa=>?_
  simp only[zm]
  rfl
theorem LF{c:ST P ct}{elt:SE P ct}(cc:c.ch=true)(ce:elt.ch=true){A:bn}{env:Env}{D:au}{p:Nat}:
  Piece P ct A env D p (λ σ K=>c.run σ λ b aI=>aX b (sB elt p aI K) (K aI)) (kU c.bA env (eval c.bA env)>>=λ ok=>if ok=true then X.wl elt.bA env (.ref D) else pure ()):=λ F hA he O G ρ σ s K R hp h=>by
 subst hA he
 exact X.cM (X.mono (c.ok cc F G ρ σ s _ O R h) λ b s₁ z=>z.u λ dW c8 aI fK fh dS bH=>match b,bH with
  |true,bH=>X.mono (rW ce F rfl rfl O dW c8 aI s₁ K dS (fh.get hp) bH) λ aa aa z=>PT.up fK fh z
  |false,bH=>X.ret ⟨dW,c8,aI,fK,fh,dS,bH⟩)
theorem LG{t t':TG P ct}{i:aB}{i' elt:SE P ct}{scope:qK}{pos:c9}(tc:t'.ch=true)(ci:i'.ch=true)(ce:elt.ch=true)(hs:∀env x,ef i'.bA env x=pure x){A:bn}{env:Env}{D:au}{p:Nat}:
  Piece P ct A env D p (λ σ K=>i'.run σ λ v aI=>IQ v aI.mem (JN t'.lz v λ ik=>∃N,li t'.set (sB elt p) N ik aI K)) (do
     let x ← eval i'.bA env
     dp i'.bA.pos
     let x ← ef i'.bA env x
     let _ ← runOwn (.compStart (.ListComp elt.bA [⟨t.bA,i,[],0⟩,⟨t'.bA,i'.bA,[],0⟩] scope pos) 1 (← holding [x] (iz x)) (.ref D) env) env
     pure ()):=λ F hA he O G ρ σ s K R hp h=>by
 subst hA he
 refine X.cM (X.mono (i'.ok ci F G ρ σ s _ O R h) λ u s₁ z=>z.u λ dW c8 v aI fK fh dS va bH=>X.at_ (X.cM (X.XF (hs _ _) (X.cM (X.holds (X.any (c7 (r4 O dS va bH) (λ w bp z=>z.elim λ I z=>z.elim λ ik z=>z.1▸z.2.h.elim λ N cW=>?_) λ aa aa z=>z)))))))
 have z:=z.2
 have hl:dP P.j (aE P.prog P.w) F.A (.compLoop (.ListComp elt.bA [⟨t.bA,i,[],0⟩,⟨t'.bA,i'.bA,[],0⟩] scope pos) 1 (.ref I) (.ref D) F.env) (λ r s'=>match r with | .ok _=>PT F ct.aS G ρ K s' | .error _=>False) bp:=yL X.V7 tc (rW ce) O N bp ⟨dW,c8,aI,ik,fK,fh,z.R,fh.get hp,z.L,z.i,z.n,cW⟩
 unfold runOwn
 exact X.cM (X.raises (X.runs rfl (X.compStart rfl (X.el hl λ r s' z=>match r,z with
   | .ok f,z=>X.ret z
   | .error e,z=>z) (X.any (wI z.i (X.el hl λ r s' z=>match r,z with
   | .ok f,z=>X.ret z
   | .error e,z=>z))))))
end
section
variable{P:cC}{ct:Ct}
structure CL(P:cC)(ct:Ct) where
 elt:aB
 mQ:TG P ct
 ifs:ae aB
 rest:ae i6
 body:Nat->JD
 ch:aC
 ok:ch=true->∀(A:bn) (env:Env) (D:au) (p:Nat) (i:aB) (scope:qK) (pos:c9) (it:ak),∃pc,Piece P ct A env D p (body p) pc/\∃ip,mY (.ListComp elt (⟨mQ.bA,i,ifs,0⟩::rest) scope pos) 0 it (.ref D) env=(dp ip>>=λ aa=>gL it>>=λ r=>match r with
   |none=>pure (.done .next)
   |some v=>dy mQ.bA it v>>=λ aa=>assign mQ.bA env v>>=λ aa=>(pc>>=λ aa=>qM (.compLoop (.ListComp elt (⟨mQ.bA,i,ifs,0⟩::rest) scope pos) 0 it (.ref D) env)))
 bab:Nat->AS->aq (ae (e9×AS)):=λ aa aa=>none
 Ku:l6 P->∀p,Ab (bab p) (λ σ K=>body p σ λ b7=>K () b7) (λ(_:e9) (_:e9)=>True):=by nofun
def EL(elt:SE P ct)(p:Nat)(s:AS):aq (ae (e9×AS)):=bO (elt.ab s) λ t s=>ob (gU s.mem p) λ o=>ob (oLst o) λ vs=>nB (bB vs.1.length 1000) (af [((),s.put p (.lst (vs.1++[t])))])
noncomputable abbrev UT:e9->e9->Prop:=λ aa aa=>True
theorem yP{elt:SE P ct}(fo:l6 P){p:Nat}:Ab (EL elt p) (λ σ K=>sB elt p σ λ b7=>K () b7) UT:=λ s outs h σ gs=>(elt.cO fo).bind (C:=λ v aI K=>pG aI.mem p λ o=>match o with
  | .lst xs=>cK (bB xs.length 1000000) (K () (aI.put p (.lst (xs++[v]))))
  |_=>False) h gs λ t s l h v σ gv gs=>ob.u h λ o ho h=>ob.u h λ vs aa h=>nB.u h λ hl h=>(gs.mem.at ho).elim λ o' m1=>aD (show GO σ.mem (.lst vs.1) o' from vs.2▸m1.2) λ us z=>
   D2.one (a:=()) (σ:=σ.put p (.lst (us++[v]))) h trivial ⟨gs.loc,gs.mem.set (o:= .lst vs.1) (vs.2▸ho) rfl ⟨_,rfl,z.2.snoc gv⟩ (.inl rfl)⟩ λ K k=>dI m1.1 (z.1.symm▸cK.i (c6 (aG (aU z.2.len) (aG (aQ hl) (by decide)))) k)
def cl1(t:TG P ct)(elt:SE P ct):CL P ct where
 elt:=elt.bA
 mQ:=t
 ifs:=[]
 rest:=[]
 body:=λ p=>sB elt p
 ch:=elt.ch
 ok:=λ c A env D p i scope pos it=>⟨_,rW c,_,X.ZZ⟩
 bab:=λ p s=>EL elt p s
 Ku:=λ fo p=>yP fo
noncomputable def TJ(t:TG P ct)(elt:SE P ct)(c:ST P ct):CL P ct where
 elt:=elt.bA
 mQ:=t
 ifs:=[c.bA]
 rest:=[]
 body:=λ p σ K=>c.run σ λ b aI=>aX b (sB elt p aI K) (K aI)
 ch:=c.ch&&elt.ch
 ok:=λ h A env D p i scope pos it=>⟨_,LF (aF h).1 (aF h).2,_,Rj⟩
noncomputable def Gv{set:AV->St->(St->Prop)->Prop}(st:(t:TV)->(s:AS)->aq {s':AS // yv set t s s'})(b:AS->aq (ae (e9×AS))):Nat->Ee->AS->aq (ae (e9×AS))
 |0,_,_=>none
 |n+1,ik,s=>ob (Ke ik s.mem) λ r=>match r with
  |none=>af [((),s)]
  |some x=>ob (st x.1 s) λ s'=>bO (b s'.1) λ aa s=>Gv st b n x.2 s
theorem wg{set:AV->St->(St->Prop)->Prop}{st:(t:TV)->(s:AS)->aq {s':AS // yv set t s s'}}{ba:AS->aq (ae (e9×AS))}{b:JD}(hb:Ab ba (λ σ K=>b σ λ b7=>K () b7) (λ(_:e9) (_:e9)=>True)):
  ∀(n:Nat) (ik:Ee) (x:IK),WN ik x->Ab (Gv st ba n ik) (λ σ K=>li set b n x σ λ b7=>K () b7) (λ(_:e9) (_:e9)=>True)
 |0,_,_,_=>λ aa aa h=>nomatch h
 |n+1,ik,x,g=>λ s outs h σ gs=>ob.u h λ r e h=>(Ga e g gs.mem).elim λ r' z=>match r,z.1,h with
  |none,gr,h=>D2.one (a:=()) h trivial gs λ K w=>z.2 _ ((show r'=none from gr)▸w)
  |some y,gr,h=>aD gr λ q gq=>ob.u h λ s' aa h=>(s'.2 q.1 σ gq.2.1 gs).elim λ b7 k'=>
   (hb.bind (C:=λ aa aV K=>li set b n q.2 aV λ b7=>K () b7) h k'.1 λ f bp l₂ cW a aV ga og=>wg hb n y.2 q.2 gq.2.2 bp l₂ cW aV og).eq λ K w=>z.2 _ (gq.1.symm▸k'.2 _ w)
def cl2(t:TG P ct)(elt:SE P ct)(t':TG P ct)(i':SE P ct):CL P ct where
 elt:=elt.bA
 mQ:=t
 ifs:=[]
 rest:=[⟨t'.bA,i'.bA,[],0⟩]
 body:=λ p σ K=>i'.run σ λ v aI=>IQ v aI.mem (JN t'.lz v λ ik=>∃N,li t'.set (sB elt p) N ik aI K)
 bab:=λ p s=>bO (i'.ab s) λ v s=>ob (aIt t'.lz v s) λ ik=>Gv t'.st (EL elt p) 12 ik.1 s
 Ku:=λ fo p s outs h σ gs=>(i'.cO fo).bind (C:=λ v aI K=>IQ v aI.mem (JN t'.lz v λ ik=>∃N,li t'.set (sB elt p) N ik aI λ b7=>K () b7)) h gs λ v s l h a σ ga gs=>ob.u h λ ik aa h=>(ik.2 a σ ga gs).elim λ x k=>
  (wg (yP fo) 12 ik.1 x k.1 _ _ h _ gs).eq λ K w=>k.2 _ ⟨12,w⟩
 ch:=vt 3 i'.bA&&(t'.ch&&(i'.ch&&elt.ch))
 ok:=λ h A env D p i scope pos it=>have d:=(xi (aF h).1).1; have h:=(aF h).2; ⟨_,LG (aF h).1 (aF (aF h).2).1 (aF (aF h).2).2 d,_,ND⟩
def EG(B:xH)(e:SE P ct)(c:CL P (B.ct ct))(σ:St)(K:Nat->St->Prop):Prop:=
 e.run σ λ v aI=>IQ v aI.mem (JN c.mQ.lz v λ ik=>∃N,li c.mQ.set (c.body aI.mem.length) N ik ⟨sH aI.loc B.src,aI.mem++[.lst []]⟩ λ aV=>K aI.mem.length ⟨aI.loc,aV.mem⟩)
theorem wj{B:xH}(hb:B.ok ct=true){e:SE P ct}(ce:e.ch=true){c:CL P (B.ct ct)}(cc:c.ch=true)(ctg:c.mQ.ch=true)(hs:∀env x,ef e.bA env x=pure x)
  {F:Fd} {G:BM} {ρ:ae au} {σ:St} {s:ar} {K:Nat->St->Prop} {pos:c9} {use:aq (ak->ie e9)} {Q:ak->ar->Prop} (O:gM P ct F) (R:RF F ct.aS G ρ σ s) (h:EG B e c σ K)
  (abT:∀G' ρ' b7 s' D C m p,dG G G'->Ext ρ ρ'->RF F ct.aS G' ρ' b7 s'->ρ'[p]?=af D->K p b7->Loose F G' ρ' s' C->s'.heap.Ns C m->X.zU P.j (aE P.prog P.w) F.A use Q (.ref D) C s'):
  WP P F.A (rH (.ListComp c.elt (⟨c.mQ.bA,e.bA,c.ifs,0⟩::c.rest) B.scope pos) B.scope F.env (firstIterPos (⟨c.mQ.bA,e.bA,c.ifs,0⟩::c.rest) pos) (newList []) (firstAsync (⟨c.mQ.bA,e.bA,c.ifs,0⟩::c.rest)) (firstIter (⟨c.mQ.bA,e.bA,c.ifs,0⟩::c.rest) F.env) use) Q s:=by
 obtain⟨b1,b2,b3,b4,b5,b6⟩:=yC hb
 refine X.comprehension (cl:=kG F.env B.scope.names []) (g:=⟨c.mQ.bA,e.bA,c.ifs,0⟩) (gs:=c.rest) rfl (hs _) (wf λ x hx hf=>?_) b1 b5 ?_
 ·obtain⟨d,hd⟩:=O.cells x.1 (b6 x hx hf); exact⟨d,hd⟩
 refine X.mono (e.ok ce F G ρ σ s _ O R h) λ u s₁ z=>z.u λ dW c8 v aI fK fh dS va bH=>X.any (c7 (r4 O dS va bH) (λ w bp z=>z.elim λ I z=>z.elim λ ik z=>z.1▸z.2.h.elim λ N cW=>?_) λ aa aa z=>z)
 obtain⟨hI,k₂,adI,gN,Lo,it,nm,_⟩:=z.2
 refine X.any (cP ?_ (by show(0:Nat)<=gh; omega))
 have lD:=gN.new (ao:= .lst []) (s':={bp with heap:=bp.heap.push {cls:= .type "list",data:= .seq ([]:ae ak).toArray}}) gN.K0 (aN _ rfl) ⟨#[],⟨_,rfl⟩,bJ.nil⟩ (λ b o e=>aA _ e) ⟨rfl,rfl,rfl⟩
 have hD:(c8++[bp.heap.objs.size])[aI.mem.length]?=af bp.heap.objs.size:=by rw[← gN.rm.len]; simp
 obtain⟨oI,hoI⟩:=Lo.al
 have hID:I≠bp.heap.objs.size:=dO (b9 hoI)
 refine X.any (wpAny_newFunctionEnv b4 (λ y hy=>by simp at hy) (λ nN Sk Sm=>?_) b1)
 have hC:(bp.heap.push {cls:= .type "list",data:= .seq ([]:ae ak).toArray}:Heap).get? (bp.heap.push {cls:= .type "list",data:= .seq ([]:ae ak).toArray}:Heap).objs.size=none:=lD.K0
 have Yu:∀b o,(bp.heap.push {cls:= .type "list",data:= .seq ([]:ae ak).toArray}:Heap).get? b=af o->nN.get? b=af o:=λ b o e=>
  Sm.extBut b o (dO (b9 e)) (aA _ e)
 have kk:∀b o,bp.heap.get? b=af o->nN.get? b=af o:=λ b o e=>Yu b o (aA _ e)
 have XA:s₁.heap.get? bp.heap.objs.size=none:=by
  cases e:s₁.heap.get? bp.heap.objs.size with
  |none=>rfl
  |some o=>exact bt (b9 (k₂ _ _ e)) (fw _)
 obtain⟨O',pT⟩:=Iq hb (s'':={bp with heap:=nN,toks:=bp.toks+([]:ae (bI×ak)).length}) O dS (Ext.snoc _ _) lD (λ b o e=>aA _ (k₂ b o e)) adI (λ a ha=>by
  rcases fQ.mp ha with ha|ha
  ·exact .inl ha
  ·simp at ha; subst ha; exact .inr XA) hC Sk Yu ⟨rfl,rfl,rfl⟩
 generalize hCe:(bp.heap.push {cls:= .type "list",data:= .seq ([]:ae ak).toArray}:Heap).objs.size=C at *
 have hCI:I≠C:=λ e=>by
  have:=aA {cls:= .type "list",data:= .seq ([]:ae ak).toArray} hoI
  rw[e,hC] at this; cases this
 have WW:Loose (pn F B C s₁ c8 dW) dW (c8++[bp.heap.objs.size]) {bp with heap:=nN,toks:=bp.toks+([]:ae (bI×ak)).length} I:=by
  refine⟨λ hm=>?_,Lo.G,hI,hCI,λ y hc=>Lo.c y (rU _ [] (λ aa aa q=>by cases q) y I hc),⟨oI,kk _ _ hoI⟩⟩
  rcases fQ.mp hm with hm|hm
  ·exact Lo.ρ hm
  ·simp at hm; exact hID hm
 have Sr:Ia dW (c8++[bp.heap.objs.size]) nN I ik:=it.up (dG.refl _) (Ext.snoc _ _) λ o e=>kk _ _ e
 obtain⟨pc,pk,ip,ht⟩:=c.ok cc F.A (pn F B C s₁ c8 dW).env bp.heap.objs.size aI.mem.length e.bA B.scope pos (.ref I)
 have fin:=yL (F:=pn F B C s₁ c8 dW) (pos:=pos) (G₀:=dW) (gJ:=c8++[bp.heap.objs.size]) ht ctg pk O' N _ ⟨dW,c8++[bp.heap.objs.size],_,ik,dG.refl _,Ext.refl _,pT,hD,WW,Sr,nm,cW⟩
 have last:∀s',PT (pn F B C s₁ c8 dW) (B.ct ct).aS dW (c8++[bp.heap.objs.size]) (λ aV=>K aI.mem.length ⟨aI.loc,aV.mem⟩) s'->X.zU P.j (aE P.prog P.w) F.A use Q (.ref bp.heap.objs.size) C s':=λ s' z=>by
   obtain⟨G',ρ',b7,g',x',R',hk⟩:=z
   have hC1:s₁.heap.get? C=none:=by
    cases e:s₁.heap.get? C with
    |none=>rfl
    |some o=>have:=aA {cls:= .type "list",data:= .seq ([]:ae ak).toArray} (k₂ _ _ e); rw[hC] at this; cases this
   have aa8:=Kx O dS hC1 R' (λ b o aa e=>e) ⟨rfl,rfl,rfl⟩
   obtain⟨m,hm⟩:=R'.ns
   obtain⟨om,esm,epm,hom,_⟩:=id hm
   refine abT G' ρ' _ s' _ C m _ (fK.trans g') (fh.trans ((Ext.snoc _ _).trans x')) aa8 (x'.get hD) hk ⟨R'.Bi,R'.lG,dS.dead hC1,λ e=>?_,λ y e=>?_,⟨om,hom⟩⟩ hm
   ·obtain⟨mL,oL,esL,epL,JM,_⟩:=dS.ns; rw[← e,hC1] at JM; cases JM
   ·obtain⟨_,_,⟨vv,oo,hoo,_⟩,_⟩:=dS.cell y C e; rw[hC1] at hoo; cases hoo
 refine X.compStart rfl (X.el fin λ r s' z=>?_) (X.any (wI (F:=pn F B C s₁ c8 dW) Sr (X.el fin λ r s' z=>?_)))
 ·cases r with
  |ok f=>exact last s' z
  |error e=>exact z
 ·cases r with
  |ok f=>exact last s' z
  |error e=>exact z
noncomputable def AQ(l:ae TV):ae (aq Nat)->aq (ae TV)
 |none::r=>ob (AQ l r) λ x=>af (.ex .undef::x)
 |some i::r=>ob (Rq l i) λ v=>ob (AQ l r) λ x=>af (v::x)
 |[]=>af []
theorem tZ{l:ae TV}{us:ae AV}(g:dH l us):∀{src:ae (aq Nat)} {x:ae TV},AQ l src=af x->dH x (sH us src)
 |[],_,h=>am h▸rfl
 |none::r,_,h=>ob.u h λ x e h=>am h▸ .cons rfl (tZ g e)
 |some i::r,_,h=>ob.u h λ v e1 h=>ob.u h λ x e h=>(t3 g e1).elim λ u z=>am h▸ .cons (z.2.1.symm▸z.2.2) (tZ g e)
def Gx(B:xH){P:cC}{ct:Ct}(c:CL P (B.ct ct))(v:TV)(s:AS):aq (ae (TV×AS)):=ob (aIt c.mQ.lz v s) λ ik=>ob (AQ s.loc B.src) λ l=>bO (Gv c.mQ.st (c.bab s.mem.length) 12 ik.1 ⟨l,s.mem++[.lst []]⟩) λ aa bp=>af [(.ex (.own s.mem.length),⟨s.loc,bp.mem⟩)]
theorem B2{B:xH}{c:CL P (B.ct ct)}(fo:l6 P){v:TV}{s:AS}{outs:ae (TV×AS)}{a:AV}{σ:St}(h:Gx B c v s=af outs)(ga:GV v a)(gs:GS s σ):
  D2 (λ K=>IQ a σ.mem (JN c.mQ.lz a λ ik=>∃N,li c.mQ.set (c.body σ.mem.length) N ik ⟨sH σ.loc B.src,σ.mem++[.lst []]⟩ λ aV=>K (.own σ.mem.length) ⟨σ.loc,aV.mem⟩)) GV outs:=by
 refine ob.u h λ ik aa h=>ob.u h λ l hl h=>(ik.2 a σ ga gs).elim λ x k=>ob.u h λ lo e h=>?_
 have hn:s.mem.length=σ.mem.length:=gs.mem.len
 have g1:GS ⟨l,s.mem++[.lst []]⟩ ⟨sH σ.loc B.src,σ.mem++[.lst []]⟩:=⟨tZ gs.loc hl,gs.mem.app (o:= .lst []) ⟨[],rfl,rfl⟩ rfl⟩
 rw[hn] at e
 exact D2.eq (D2.bind (C:=λ aa aV K=>K (.own σ.mem.length) ⟨σ.loc,aV.mem⟩) (wg (c.Ku fo σ.mem.length) 12 ik.1 x k.1 _ _ e _ g1) h λ aa bp l' h' aa aV aa og=>D2.one (a:=AV.own σ.mem.length) (σ:=⟨σ.loc,aV.mem⟩) h' (ah AV.own hn.symm) ⟨gs.loc,og.mem⟩ λ K w=>w) λ K w=>k.2 _ ⟨12,w⟩
def NT(B:xH)(e:SE P ct)(c:CL P (B.ct ct))(pos:c9):SE P ct where
 bA:= .ListComp c.elt (⟨c.mQ.bA,e.bA,c.ifs,0⟩::c.rest) B.scope pos
 run:=λ σ K=>EG B e c σ λ p b7=>K (.own p) b7
 ch:=vt 3 e.bA&&(B.ok ct&&(e.ch&&(c.ch&&c.mQ.ch)))
 star:=λ aa aa=>rfl
 ok:=λ h F G ρ σ s Kv O R hr=>by
  have q0:=aF h; have q1:=aF q0.2; have q2:=aF q1.2; have q3:=aF q2.2
  rw[eval_ListComp]
  exact wj q1.1 q2.1 q3.1 q3.2 (xi q0.1).1 O R hr λ G' ρ' b7 s' D C m p g x R' hp hk Lo hm=>⟨m,hm,λ h' sb=>PE.up g x (PE.here (R'.side (s':={s' with heap:=h'}) (λ a o n e=>sb.extBut a o n e) Lo.ρ Lo.G Lo.h Lo.L Lo.c ⟨rfl,rfl,rfl⟩) (VR.I5 hp) hk)⟩
 ab:=Kh e.ab (Gx B c)
 cO:=λ fo=>nJ fo λ v s outs a σ h ga gs=>B2 fo h ga gs
noncomputable def Zy(sc:qK)(x:bI)(p' pos:c9):aC:=p'.line==pos.line&&!(sc.names.any λ n=>n.1==x&&(n.2== .local||n.2== .cell))
theorem QU{sc:qK}{x:bI}{p' pos:c9}{a:aB}{gs:ae i6}{l:Nat}{env:Env}(h:Zy sc x p' pos=true)(hk:env.scope.kind= .function)(hl:env.kindOf x=af .local):oD (.ListComp a gs sc pos) (af (.Name x p')) l env=pure true:=by
 unfold oD
 show pure (env.blockKind== .function&&env.kindOf x==af .local&&p'.line==pos.line&&!(sc.names.any λ n=>n.1==x&&(n.2== .local||n.2== .cell)))=_
 rw[show env.blockKind= .function by unfold Env.blockKind; rw[hk]; rfl,hl,(aF h).1,(aF h).2]
 rfl
def M2(i:Nat)(x:bI)(p':c9)(B:xH)(e:SE P ct)(c:CL P (B.ct ct))(pos p:c9):SX P ct where
 bA:= .Assign [.Name x p'] (.ListComp c.elt (⟨c.mQ.bA,e.bA,c.ifs,0⟩::c.rest) B.scope pos) p
 run:=λ σ K=>EG B e c σ λ q b7=>K .d8 (b7.set i (.own q))
 ch:=Zy B.scope x p' pos&&(vt 3 e.bA&&((o9 ct i x&&(ct.names.lookup x==af .local))&&(B.ok ct&&(e.ch&&(c.ch&&c.mQ.ch)))))
 ok:=λ h F G ρ σ s Kv O R hr=>by
  obtain⟨hw,h⟩:=aF h
  obtain⟨hz,h⟩:=aF h
  have hs:=(xi hz).1
  obtain⟨h0,h⟩:=aF h
  obtain⟨h1,h⟩:=aF h
  obtain⟨h2,h⟩:=aF h
  obtain⟨h3,h4⟩:=aF h
  have hl:F.env.kindOf x=af .local:=by unfold Env.kindOf; rw[O.names]; exact a4.mp (aF h0).2
  rw[exec_Assign_Name_used _ _ _ _ (QU hw O.kind hl)]
  refine X.at_ (X.cM ?_)
  unfold evalThenUse
  refine X.cM ?_
  refine wj (use:=af (assign (.Name x p') F.env)) h1 h2 h3 h4 hs O R hr λ G' ρ' b7 s' D C m q g x' R' hp hk Lo hm=>?_
  show cL _ _ _ (assign (.Name x p') F.env (.ref D)) _ s'
  refine X.any (xQ (qI (F:=F.now G' ρ' s') (O.now R') R'.now (aF h0).1 (VR.I5 hp) λ s'' Ba=>?_))
  obtain⟨om,esm,epm,hom,rest⟩:=hm
  have hC:=Ba.keep C om Lo.ρ ⟨Lo.L,λ aa y aa=>Lo.c y⟩ hom
  refine⟨m,⟨om,esm,epm,hC,rest⟩,λ h' sb=>?_⟩
  have lD:=R'.then Ba
  exact X.ret (X.ret (PF.d8 g x' (lD.side (s':={s'' with heap:=h'}) (λ a o n e=>sb.extBut a o n e) Lo.ρ Lo.G Lo.h Lo.L Lo.c ⟨rfl,rfl,rfl⟩) hk))
 ab:=Kh e.ab λ v s=>bO (Gx B c v s) λ t s=>af [(.d8,s.set i t)]
 cO:=λ fo=>nJ (g:=GF) (f:=λ v s=>bO (Gx B c v s) λ t s=>af [(.d8,s.set i t)]) (C:=λ a σ (K:Fl->St->Prop)=>IQ a σ.mem (JN c.mQ.lz a λ ik=>∃N,li c.mQ.set (c.body σ.mem.length) N ik ⟨sH σ.loc B.src,σ.mem++[.lst []]⟩ λ aV=>K .d8 (St.set ⟨σ.loc,aV.mem⟩ i (.own σ.mem.length)))) fo λ v s outs a σ h ga gs=>ob.u h λ l e h=>
  D2.bind (C:=λ b b7 K=>K Fl.d8 (b7.set i b)) (B2 fo e ga gs) h λ t s l h b b7 gb p_=>D2.one (g:=GF) (b:=AF.d8) (a:=Fl.d8) (σ:=b7.set i b) h rfl ⟨p_.loc.set i gb,p_.mem⟩ λ K z=>z
end
section
variable{P:cC}{ct:Ct}
def OV(P:cC)(ct:Ct)(x:bI)(f:ak):aC:=Cn ct x&&(P.blt.contains x&&(bootBuiltins x==af f))
theorem Ap{F:Fd}{G:BM}{ρ:ae au}{σ:St}{s:ar}{x:bI}{f:ak}{q:c9}{Q:ak->ar->Prop}(O:gM P ct F)(R:RF F ct.aS G ρ σ s)(c:OV P ct x f=true)(h:Q f s):aH (aE P.prog P.w) F.A (eval (.Name x q) F.env) Q dw s:=
 have c1:=Co (aF c).1
 have c2:=aF (aF c).2
 have b:=P.yD x c2.1
 R.AT O λ B p l mg mb h1 h2 h3=>Name_function_global O.kind ((ah (·.lookup x) O.names).trans c1.1) (loadGlobal_builtin (O.glob.symm▸h2.g.keeps h3) (mg_none_of h1 h2.g b.1) (O.blt.symm▸h2.b.keeps h3) ((h2.builtins x b.2).trans (a4.mp c2.2)) h) c1.2
theorem oU{M:ir}{f:ak}(hf:∀a,f≠ .ref a)(h:Heap)(_:True):∃k,(k=A5\/k=xF\/k=tf)/\Looks M h (keeperOf f) k:=
 ⟨.machine, .inr (.inl rfl),λ A Q E s k q=>by
  cases f
  case ref=>exact bt rfl (hf _)
  all_goals exact aw q⟩
noncomputable abbrev xX:=ae AV->St->(AV->St->Prop)->Prop
structure Bf(P:cC)(ct:Ct) where
 nm:bI
 f:ak
 lY:xX
 jj:aC
 hf:∀a,f≠ .ref a
 snd:∀F G ρ σ s Kv dx vs,(jj=true->P.j=true)->gM P ct F->RF F ct.aS G ρ σ s->bJ G ρ dx vs->lY dx σ Kv->WP P F.A (call f vs []) (PE F ct.aS G ρ Kv) s
 lf:ae TV->AS->aq (ae (TV×AS)):=λ aa aa=>none
 lk:∀ts s outs vs σ,lf ts s=af outs->dH ts vs->GS s σ->D2 (lY vs σ) GV outs:=by nofun
def xB(B:Bf P ct)(q:c9)(as:SL P ct)(p:c9):SE P ct where
 bA:= .Call (.Name B.nm q) as.bA [] p
 run:=λ σ K=>as.run σ λ vs aI=>B.lY vs aI K
 ab:=λ s=>bO (as.ab s) B.lf
 cO:=λ fo s outs h σ gs=>(as.cO fo).bind h gs λ ts s l h vs σ gv gs=>B.lk ts s l vs σ h gv gs
 ch:=(!B.jj||P.j)&&(OV P ct B.nm B.f&&as.ch)
 star:=λ aa aa=>rfl
 ok:=λ c F G ρ σ s Kv O R h=>have c1:=aF (aF c).2
  X.pX (X.any (Ap O R c1.1 (X.ui (Pm:=λ aa=>True) (as.plain _ _) (oU B.hf) (X.mono (as.ok c1.2 F G ρ σ s _ _ O R h) λ vs s₁ z=>z.u λ dW c8 dx aI fK fh dS va bH=>
   ⟨trivial,X.mono (B.snd F dW c8 aI s₁ Kv dx vs (λ e=>(ah (λ b=>(!b||P.j)=true) e).mp (aF c).1) O dS va bH) λ aa aa=>PE.up fK fh⟩))))
def Vc(vs:ae AV)(K:Prop):Prop:=match vs with
 |[]=>K
 |_=>False
def Hl(vs:ae AV)(K:AV->Prop):Prop:=match vs with
 |[v]=>K v
 |_=>False
def Y6(vs:ae AV)(K:AV->AV->Prop):Prop:=match vs with
 |[v,w]=>K v w
 |_=>False
def Y7(vs:ae AV)(K:AV->AV->AV->Prop):Prop:=match vs with
 |[v,w,x]=>K v w x
 |_=>False
theorem Vc.u{vs:ae AV}{K:Prop}{Q:ae AV->Prop}(h:Vc vs K)(k:K->Q []):Q vs:=by
 rcases vs with _|_
 ·exact k h
 ·exact h.elim
theorem Hl.u{vs:ae AV}{K:AV->Prop}{Q:ae AV->Prop}(h:Hl vs K)(k:∀v,K v->Q [v]):Q vs:=by
 rcases vs with _|⟨v,_|_⟩
 ·exact h.elim
 ·exact k v h
 ·exact h.elim
theorem Y6.u{vs:ae AV}{K:AV->AV->Prop}{Q:ae AV->Prop}(h:Y6 vs K)(k:∀v w,K v w->Q [v,w]):Q vs:=by
 rcases vs with _|⟨v,_|⟨w,_|_⟩⟩
 case cons.cons.nil=>exact k v w h
 all_goals exact h.elim
theorem Y7.u{vs:ae AV}{K:AV->AV->AV->Prop}{Q:ae AV->Prop}(h:Y7 vs K)(k:∀v w x,K v w x->Q [v,w,x]):Q vs:=by
 rcases vs with _|⟨v,_|⟨w,_|⟨x,_|_⟩⟩⟩
 case cons.cons.cons.nil=>exact k v w x h
 all_goals exact h.elim
section
variable{F:Fd}{G:BM}{ρ:ae au}{σ:St}{s:ar}{a b c:AV}{v:ak}{vs:ae ak}{dx:ae AV}{Kv:AV->St->Prop}{Q:ae ak->Prop}
theorem bJ.a0{K:Prop}(h:Vc dx K)(va:bJ G ρ dx vs)(k:K->Q []):Q vs:=Vc.u (Q:=λ dx=>bJ G ρ dx vs->Q vs) h (λ h va=>va.u0 (k h)) va
theorem bJ.a1{K:AV->Prop}(h:Hl dx K)(va:bJ G ρ dx vs)(k:∀a u,K a->VR G ρ a u->Q [u]):Q vs:=Hl.u (Q:=λ dx=>bJ G ρ dx vs->Q vs) h (λ a h va=>va.u1 λ u vu=>k a u h vu) va
theorem bJ.a2{K:AV->AV->Prop}(h:Y6 dx K)(va:bJ G ρ dx vs)(k:∀a b u v,K a b->VR G ρ a u->VR G ρ b v->Q [u,v]):Q vs:=Y6.u (Q:=λ dx=>bJ G ρ dx vs->Q vs) h (λ a b h va=>va.u2 λ u v vu vv=>k a b u v h vu vv) va
theorem bJ.a3{K:AV->AV->AV->Prop}(h:Y7 dx K)(va:bJ G ρ dx vs)(k:∀a b c u v w,K a b c->VR G ρ a u->VR G ρ b v->VR G ρ c w->Q [u,v,w]):Q vs:=Y7.u (Q:=λ dx=>bJ G ρ dx vs->Q vs) h (λ a b c h va=>va.u3 λ u v w vu vv vw=>k a b c u v w h vu vv vw) va
theorem VR.OX{bs:ae bZ}{Q:ak->Prop}(h:VR G ρ (.ky bs) v)(k:∀t,Q (.bytes bs.toArray t)):Q v:=aD h λ t e=>(show v=_ from e)▸k t
def C9(o:AO)(K:ae bZ->Prop):Prop:=match o with
 | .ba bs=>K bs
 |_=>False
theorem C9.u{o:AO}{K:ae bZ->Prop}{Q:AO->Prop}(h:C9 o K)(k:∀bs,K bs->Q (.ba bs)):Q o:=by
 rcases o with _|_|_|_|_|_|bs|_
 case ba=>exact k bs h
 all_goals exact h.elim
def acy(o:AO)(K:Nat->Prop):Prop:=match o with
 | .ba b=>K b.length
 | .lst xs=>K xs.length
 | .il xs=>K xs.length
 |_=>False
def YF(a:AV)(m:ae AO)(K:Nat->Prop):Prop:=match a with
 | .ky b=>K b.length
 | .lst xs=>K xs.length
 | .row xs=>K xs.length
 | .own p=>pG m p λ o=>acy o K
 |_=>False
def M9:xX:=λ vs σ K=>Hl vs λ a=>YF a σ.mem λ n=>need (n < 4611686018427387904) (K (.int n) σ)
theorem Ug{n:Nat}(h:n < 4611686018427387904):(n:Int) < 2 ^ 63:=dr (mV.mpr h) (by decide)
theorem P7{l:au}{o:Obj}{vs:bD ak}{n:Nat}(R:RF F ct.aS G ρ σ s)(ho:s.heap.get? l=af o)(hl:iY o vs)(hn:vs.toList.length=n)(h:need (n < 4611686018427387904) (Kv (.int n) σ)):
  aH (aE P.prog P.w) F.A (call (.builtin "len") [.ref l]) (PE F ct.aS G ρ Kv) dw s:=
 h.u λ hb h=>have e:vs.size=n:=bh.symm.trans hn; call_len_list ⟨o,ho,hl.is⟩ (e.symm▸Ug hb) (e.symm▸PE.here (R.toks _) VR.mF h)
theorem P8(R:RF F ct.aS G ρ σ s)(va:VR G ρ a v)(h:YF a σ.mem λ n=>need (n < 4611686018427387904) (Kv (.int n) σ)):aH (aE P.prog P.w) F.A (call (.builtin "len") [v]) (PE F ct.aS G ρ Kv) dw s:=by
 rcases a with _|_|_|_|bs|p|_|_|_|_|_|xs|ns|_|_|_|_|_
 case ky=>exact need.u h λ hb h=>va.OX (Q:=λ v=>aH (aE P.prog P.w) F.A (call (.builtin "len") [v]) (PE F ct.aS G ρ Kv) dw s) λ t=>U0 (fj (cT▸hb) (by decide)) (PE.here (R.toks _) (cT.symm▸VR.mF) h)
 case own=>
  exact pG.u h λ o e h=>R.own va e (Q:=λ v=>aH (aE P.prog P.w) F.A (call (.builtin "len") [v]) (PE F ct.aS G ρ Kv) dw s) λ adr ob jK h1 q=>by
   rcases o with xs|ns|_|_|_|_|bs|_
   case lst=>exact aD q λ us q=>P7 R h1 q.1 q.2.length h
   case il=>exact aD q λ us q=>P7 R h1 q.1 q.2.length h
   case ba=>exact need.u h λ hb h=>UZ ((show ob=nK bs from q)▸h1) (fj hb (by decide)) (PE.here (R.toks _) VR.mF h)
   all_goals exact h.elim
 case lst=>exact va.lstU (Q:=λ v=>aH (aE P.prog P.w) F.A (call (.builtin "len") [v]) (PE F ct.aS G ρ Kv) dw s) λ l o us hg hl hv=>P7 R (R.rm.kg _ _ hg) hl hv.length h
 case row=>exact va.Dl (Q:=λ v=>aH (aE P.prog P.w) F.A (call (.builtin "len") [v]) (PE F ct.aS G ρ Kv) dw s) λ l o us hg hl hv=>P7 R (R.rm.kg _ _ hg) hl hv.length h
 all_goals exact h.elim
end
theorem E4{n m:Nat}{k:Prop}(e:n=m)(h:bB m 1000000=true)(z:k):need (n < 4611686018427387904) k:=TP (aT (e▸aQ h) (by decide)) z
abbrev aa4(t:TV)(s:AS)(u:TV):Prop:=∀a σ,GV t a->GS s σ->∃v,GV u v/\∀K:AV->St->Prop,K v σ->M9 [a] σ K
def adf(t:TV)(s:AS):aq {u:TV // aa4 t s u}:=
 oe (ob (VX t) λ n=>bE (bB n.1 1000000) λ hn=>af ⟨.rg 0 n.1,λ a σ g gs=>aD (n.2▸g:GV (.JI n.1) a) λ bs e=>e.1.symm▸⟨.int bs.length,⟨_,rfl,kj _,pL.mpr e.2⟩,λ K k=>TP (aT (aG e.2 (aQ hn)) (by decide)) k⟩⟩)
 (oe (ob (VZ t) λ r=>bE (bB r.1.length 1000000) λ hn=>af ⟨.ex (.int r.1.length),λ a σ g gs=>(ly g r.2).symm▸⟨_,rfl,λ K k=>E4 rfl hn k⟩⟩)
 (oe (ob (nR t) λ p=>jN (gU s.mem p.1) λ o ho=>ob (oLst o) λ vs=>bE (bB vs.1.length 1000000) λ hn=>af ⟨.ex (.int vs.1.length),λ a σ g gs=>(ly g p.2).symm▸(gs.vs ho vs.2 λ aa z=>z).elim λ us z=>
  ⟨.int us.length,ah (λ n:Nat=>AV.int n) z.2.len,λ K k=>dI z.1 (E4 z.2.len hn k)⟩⟩)
 (ob (toAV t) λ v=>ob (U2 v.1) λ l=>bE (bB l.1.length 1000000) λ hn=>af ⟨.ex (.int l.1.length),λ a σ g gs=>((v.2 _ g).trans l.2).symm▸⟨_,rfl,λ K k=>E4 rfl hn k⟩⟩)))
theorem jN.u{α β:Type}{x:aq α}{f:(a:α)->x=af a->aq β}{y:β}{Q:Prop}(h:jN x f=af y)(k:∀a e,f a e=af y->Q):Q:=by
 rcases x with _|a
 ·exact cu h
 ·exact k a rfl h
theorem oe.v{α:Type}{x y:aq α}{r:α}{Q:Prop}(h:oe x y=af r)(k1:x=af r->Q)(k2:y=af r->Q):Q:=by
 rcases x with _|x
 ·exact k2 h
 ·exact k1 h
noncomputable def y9:(ts:ae TV)->aq {t:TV // ts=[t]}
 |[t]=>af ⟨t,rfl⟩
 |_=>none
noncomputable def Rm:(ts:ae TV)->aq {t:TV×TV // ts=[t.1,t.2]}
 |[t,u]=>af ⟨(t,u),rfl⟩
 |_=>none
theorem dH.v1{t:TV}{ts:ae TV}{vs:ae AV}{Q:ae AV->Prop}(e:ts=[t])(g:dH ts vs)(k:∀v,GV t v->Q [v]):Q vs:=(e▸g:dH [t] vs).u1 k
theorem dH.v2{t u:TV}{ts:ae TV}{vs:ae AV}{Q:ae AV->Prop}(e:ts=[t,u])(g:dH ts vs)(k:∀v w,GV t v->GV u w->Q [v,w]):Q vs:=(e▸g:dH [t,u] vs).u2 k
def lf1(f:TV->AS->aq (ae (TV×AS)))(ts:ae TV)(s:AS):aq (ae (TV×AS)):=ob (y9 ts) λ t=>f t.1 s
theorem E5{f:TV->AS->aq (ae (TV×AS))}{lY:xX}(k:∀t s outs a σ,f t s=af outs->GV t a->GS s σ->D2 (lY [a] σ) GV outs)(ts:ae TV)(s:AS)(outs:ae (TV×AS))(vs:ae AV)(σ:St)(h:lf1 f ts s=af outs)(g:dH ts vs)(gs:GS s σ):D2 (lY vs σ) GV outs:=
 ob.u h λ t aa h=>dH.v1 t.2 g (Q:=λ vs=>D2 (lY vs σ) GV outs) λ a ga=>k _ s outs a σ h ga gs
def Xg:Bf P ct where
 nm:="len"
 f:= .builtin "len"
 lY:=M9
 jj:=false
 hf:=λ aa e=>nomatch e
 snd:=λ F G ρ σ s Kv dx vs aa O R va h=>va.a1 (Q:=λ vs=>WP P F.A (call (.builtin "len") vs []) (PE F ct.aS G ρ Kv) s) h λ a u h vu=>X.any (P8 R vu h)
 lf:=lf1 λ t s=>ob (adf t s) λ u=>af [(u.1,s)]
 lk:=E5 λ t s outs a σ h ga gs=>ob.u h λ u aa h=>(u.2 a σ ga gs).elim λ v k=>D2.one h k.1 gs k.2
def aac(q:c9)(as:SL P ct)(p:c9):SE P ct:=xB Xg q as p
def Qr(a:AV)(K:aC->Prop):Prop:=match a with
 | .bool b=>K b
 |_=>False
theorem Qr.u{a:AV}{K:aC->Prop}{Q:AV->Prop}(h:Qr a K)(k:∀b,K b->Q (.bool b)):Q a:=by
 rcases a with _|_|b|_|_|_|_|_|_|_|_|_|_|_|_|_|_|_
 case bool=>exact k b h
 all_goals exact h.elim
def VL:xX:=λ vs σ K=>Hl vs λ a=>Qr a λ b=>K (.int (aX b 1 0)) σ
theorem TD(b:aC):(0:Int)<=aX b 1 0/\(aX b 1 0:Int)<=1:=by cases b<;>decide
theorem UD{b:aC}:(if b then 1 else 0:Int)=aX b 1 0:=by cases b<;>rfl
def Xf:Bf P ct where
 nm:="int"
 f:= .type "int"
 lY:=VL
 jj:=false
 hf:=λ aa e=>nomatch e
 snd:=λ F G ρ σ s Kv dx vs aa O R va h=>va.a1 (Q:=λ vs=>WP P F.A (call (.type "int") vs []) (PE F ct.aS G ρ Kv) s) h λ a u h vu=>Qr.u (Q:=λ a=>VR G ρ a u->WP P F.A (call (.type "int") [u] []) (PE F ct.aS G ρ Kv) s) h (λ b h va=>va.R1 (Q:=λ u=>WP P F.A (call (.type "int") [u] []) (PE F ct.aS G ρ Kv) s)
  (X.any (call_int_bool (PE.here (R.toks _) (UD▸VR.mF) h)))) vu
 lf:=lf1 λ t s=>ob (ZM t) λ u=>af [(.rg 0 1,s)]
 lk:=E5 λ t s outs a σ h ga gs=>ob.u h λ u aa h=>(u.2 a ga).elim λ b e=>e.symm▸D2.one (a:=AV.int (aX b 1 0)) h ⟨_,rfl,TD b⟩ gs λ K k=>k
def aab(q:c9)(as:SL P ct)(p:c9):SE P ct:=xB Xf q as p
def M8:xX:=λ vs σ K=>Hl vs λ a=>lI a λ p=>pG σ.mem p λ o=>C9 o λ b=>need (b.length < 1000000) (K (.ky b) σ)
noncomputable def ON:Bf P ct where
 nm:="bytes"
 f:= .type "bytes"
 lY:=M8
 jj:=false
 hf:=λ aa e=>nomatch e
 snd:=λ F G ρ σ s Kv dx vs aa O R va h=>va.a1 (Q:=λ vs=>WP P F.A (call (.type "bytes") vs []) (PE F ct.aS G ρ Kv) s) h λ a u h vu=>lI.u (Q:=λ a=>VR G ρ a u->WP P F.A (call (.type "bytes") [u] []) (PE F ct.aS G ρ Kv) s) h (λ p h va=>h.u λ o e h=>R.own va e (Q:=λ u=>WP P F.A (call (.type "bytes") [u] []) (PE F ct.aS G ρ Kv) s) λ adr ob aa h1 q=>
  C9.u (Q:=λ o=>OR G ρ o ob->WP P F.A (call (.type "bytes") [.ref adr] []) (PE F ct.aS G ρ Kv) s) h (λ b h q=>h.u λ hb h=>X.any (x7 ((show ob=nK b from q)▸h1) (eX (b_ hb (dZ.symm▸(by decide:1000000 < 16777216)))) (PE.here (R.toks _) VR.R2 h))) q) vu
def NS(q:c9)(as:SL P ct)(p:c9):SE P ct:=xB ON q as p
def Zz:xX:=λ vs σ K=>Vc vs (K (.own σ.mem.length) ⟨σ.loc,σ.mem++[.ba []]⟩)
theorem PE.Ff{F:Fd}{aS:ae bI}{G:BM}{ρ:ae au}{σ:St}{s s':ar}{Kv:AV->St->Prop}{a:au}{o:Obj}{ao:AO}(R:RF F aS G ρ σ s)(ha:s.heap.get? a=none)(he:s'.heap.get? a=af o)(q:OR G (ρ++[a]) ao o)
  (k:∀b o,s.heap.get? b=af o->s'.heap.get? b=af o) (z:s'.gens=s.gens/\s'.gens=s.gens/\s'.os=s.os) (h:Kv (.own σ.mem.length) ⟨σ.loc,σ.mem++[ao]⟩):PE F aS G ρ Kv (.ref a) s':=
 PE.up (dG.refl _) (Ext.snoc _ _) (PE.here (R.new ha he q k z) (VR.I5 R.Dz) h)
noncomputable def abf:Bf P ct where
 nm:="bytearray"
 f:= .type "bytearray"
 lY:=Zz
 jj:=true
 hf:=λ aa e=>nomatch e
 snd:=λ F G ρ σ s Kv dx vs hj O R va h=>va.a0 (Q:=λ vs=>WP P F.A (call (.type "bytearray") vs []) (PE F ct.aS G ρ Kv) s) h λ h=>X.jt (hj rfl) (X.Ev λ h' e1 e2=>PE.Ff (ao:= .ba []) (s':={s with heap:=h'}) R R.K0 e1 rfl e2 ⟨rfl,rfl,rfl⟩ h)
def xBa(q:c9)(as:SL P ct)(p:c9):SE P ct:=xB abf q as p
end
section
variable{P:cC}{ct:Ct}
noncomputable abbrev vY:=AV->St->(AV->St->Prop)->Prop
noncomputable abbrev Oo:=AV->AV->St->(AV->St->Prop)->Prop
def one(f:vY):xX:=λ vs σ K=>Hl vs λ a=>f a σ K
def two(f:Oo):xX:=λ vs σ K=>Y6 vs λ a b=>f a b σ K
abbrev Op(P:cC)(ct:Ct)(f:ak)(jj:aC)(lY:vY):Prop:=∀F G ρ σ s Kv a v,(jj=true->P.j=true)->gM P ct F->RF F ct.aS G ρ σ s->VR G ρ a v->lY a σ Kv->WP P F.A (call f [v] []) (PE F ct.aS G ρ Kv) s
abbrev aa9(P:cC)(ct:Ct)(f:ak)(jj:aC)(lY:Oo):Prop:=∀F G ρ σ s Kv a b v w,(jj=true->P.j=true)->gM P ct F->RF F ct.aS G ρ σ s->VR G ρ a v->VR G ρ b w->lY a b σ Kv->WP P F.A (call f [v,w] []) (PE F ct.aS G ρ Kv) s
def RX(x:bI)(f:ak)(lY:vY)(jj:aC)(hf:∀a,f≠ .ref a)(snd:Op P ct f jj lY)(lf:TV->AS->aq (ae (TV×AS)):=λ aa aa=>none)(lk:∀t s outs a σ,lf t s=af outs->GV t a->GS s σ->D2 (lY a σ) GV outs:=by nofun):Bf P ct:=
 {nm:=x,f:=f,lY:=one lY,jj:=jj,hf:=hf,snd:=λ F G ρ σ s Kv dx vs hj O R va h=>va.a1 (Q:=λ vs=>WP P F.A (call f vs []) (PE F ct.aS G ρ Kv) s) h λ a u h vu=>snd F G ρ σ s Kv a u hj O R vu h,lf:=lf1 lf,lk:=E5 lk}
def lf2(f:TV->TV->AS->aq (ae (TV×AS)))(ts:ae TV)(s:AS):aq (ae (TV×AS)):=ob (Rm ts) λ t=>f t.1.1 t.1.2 s
theorem U1{f:TV->TV->AS->aq (ae (TV×AS))}{lY:xX}(k:∀t u s outs a b σ,f t u s=af outs->GV t a->GV u b->GS s σ->D2 (lY [a,b] σ) GV outs)(ts:ae TV)(s:AS)(outs:ae (TV×AS))(vs:ae AV)(σ:St)(h:lf2 f ts s=af outs)(g:dH ts vs)(gs:GS s σ):D2 (lY vs σ) GV outs:=
 ob.u h λ t aa h=>dH.v2 t.2 g (Q:=λ vs=>D2 (lY vs σ) GV outs) λ a b ga gb=>k _ _ s outs a b σ h ga gb gs
def bf2(x:bI)(f:ak)(lY:Oo)(jj:aC)(hf:∀a,f≠ .ref a)(snd:aa9 P ct f jj lY)(lf:TV->TV->AS->aq (ae (TV×AS)):=λ aa aa aa=>none)(lk:∀t u s outs a b σ,lf t u s=af outs->GV t a->GV u b->GS s σ->D2 (lY a b σ) GV outs:=by nofun):Bf P ct:=
 {nm:=x,f:=f,lY:=two lY,jj:=jj,hf:=hf,snd:=λ F G ρ σ s Kv dx vs hj O R va h=>va.a2 (Q:=λ vs=>WP P F.A (call f vs []) (PE F ct.aS G ρ Kv) s) h λ a b u v h vu vv=>snd F G ρ σ s Kv a b u v hj O R vu vv h,lf:=lf2 lf,lk:=U1 lk}
noncomputable def Fa:ae Int->Int
 |[]=>0
 |[a]=>a
 |a::r=>aX (decide (a < Fa r)) (Fa r) a
noncomputable def CY:ae Int->Int
 |[]=>0
 |[a]=>a
 |a::r=>aX (decide (CY r < a)) (CY r) a
theorem yy{c m x:Int}{l:ae Int}{p:Prop}[fD p]{le:Int->Int->Prop}(z:x∈l/\∀a∈l,le a x)(e:m=aX (decide p) x c)(h1:p->le c x)(h2:¬p->le x c)(rf:le c c)(tr:∀{a b c},le a b->le b c->le a c):m∈c::l/\∀a∈c::l,le a m:=
 (nX p).elim (λ q=>(e.trans (ah (aX · x c) (cz q))).symm▸⟨.tail _ z.1,aJ.mpr ⟨h1 q,z.2⟩⟩)
  λ q=>(e.trans (ah (aX · x c) (dj q))).symm▸⟨.head _,aJ.mpr ⟨rf,λ a ha=>tr (z.2 a ha) (h2 q)⟩⟩
theorem y5:∀(l:ae Int),l≠[]->Fa l∈l/\∀a∈l,a<=Fa l
 |[]=>λ h=>bt rfl h
 |[a]=>λ aa=>⟨.head _,λ x h=>dX (be.mp h)⟩
 |a::b::r=>λ aa=>yy (le:=(·<=·)) (p:=a < Fa (b::r)) (y5 (b::r) (lM _ _)) rfl eW gX.mp (dT _) aO
theorem tQ:∀(l:ae Int),l≠[]->CY l∈l/\∀a∈l,CY l<=a
 |[]=>λ h=>bt rfl h
 |[a]=>λ aa=>⟨.head _,λ x h=>dX (be.mp h).symm⟩
 |a::b::r=>λ aa=>yy (le:=λ x y=>y<=x) (p:=CY (b::r) < a) (tQ (b::r) (lM _ _)) rfl eW gX.mp (dT _) λ h k=>aO k h
theorem cx.Hi{ns:ae Int}{vs:ae ak}(h:IntsAre vs ns):cx ns vs:=by
 induction h with
 |nil=>rfl
 |cons a t _ ih=>exact⟨t,_,rfl,ih⟩
def Yl(o:AO)(K:ae Int->Prop):Prop:=match o with
 | .lst xs=>sP (intsOf xs) K
 | .il ns=>K ns
 |_=>False
def lV(a:AV)(mem:ae AO)(K:ae Int->Prop):Prop:=match a with
 | .own p=>pG mem p λ o=>Yl o K
 | .row ns=>K ns
 | .lst xs=>sP (intsOf xs) K
 |_=>False
section
variable{F:Fd}{G:BM}{ρ:ae au}{σ:St}{s:ar}{a:AV}{v:ak}{Kv:AV->St->Prop}
theorem lV.u{aS:ae bI}{K:ae Int->Prop}{Q:ak->Prop}(h:lV a σ.mem K)(R:RF F aS G ρ σ s)(va:VR G ρ a v)(k:∀l o vs ns,s.heap.get? l=af o->iY o vs->cx ns vs.toList->K ns->Q (.ref l)):Q v:=by
 rcases a with _|_|_|_|_|p|_|_|_|_|_|xs|ns|_|_|_|_|_
 case own=>
  exact pG.u h λ o e h=>R.own va e (Q:=Q) λ adr ob aa h1 q=>by
   rcases o with xs|ns|_|_|_|_|_|_
   case lst=>exact aD q λ us q=>sP.u h λ ns e h=>k adr ob us ns h1 q.1 (oh e q.2) h
   case il=>exact aD q λ us q=>k adr ob us ns h1 q.1 q.2 h
   all_goals exact h.elim
 case lst=>exact va.lstU (Q:=Q) λ l o us hg hl hv=>sP.u h λ ns e h=>k l o us ns (R.rm.kg _ _ hg) hl (oh e hv) h
 case row=>exact va.Dl (Q:=Q) λ l o us hg hl hv=>k l o us ns (R.rm.kg _ _ hg) hl hv h
 all_goals exact h.elim
end
def HC:vY:=λ a σ K=>j9 a λ i=>K (.int i.natAbs) σ
def QX:Oo:=λ a b σ K=>j9 a λ i=>j9 b λ j=>K (.int (aX (decide (j > i)) j i)) σ
noncomputable def Oz(q:Int×Int):Int×Int:=aX (decide (0<=q.1)) q (aX (decide (q.2<=0)) (-q.2,-q.1) (0,aX (decide (-q.1<=q.2)) q.2 (-q.1)))
theorem Gc{q:Int×Int}{i:Int}(h0:q.1<=i)(h1:i<=q.2):(Oz q).1<=i.natAbs/\(i.natAbs:Int)<=(Oz q).2:=by
 unfold Oz
 by_cases a:0<=q.1
 ·rw[cz a,me (aO a h0)]; exact⟨h0,h1⟩
 ·rw[dj a]
  by_cases b:q.2<=0
  ·rw[cz b,nt (aO h1 b)]; exact⟨np h1,np h0⟩
  ·rw[dj b]
   refine⟨kj _,?_⟩
   have m:(i.natAbs:Int)<=q.2\/(i.natAbs:Int)<=-q.1:=(Int.le_total 0 i).imp (λ h=>aO (dX (me h)) h1) λ h=>aO (dX (nt h)) (np h0)
   by_cases c: -q.1<=q.2
   ·rw[cz c]; exact m.elim id λ h=>aO h c
   ·rw[dj c]; exact m.elim (λ h=>aO h (eW (Int.not_le.mp c))) id
theorem Tp(i:Int):(if i < 0 then -i else i)=(i.natAbs:Int):=(nX (i < 0)).elim (λ h=>(dq h).trans (nt (eW h)).symm) λ h=>(bC h).trans (me (gX.mp h)).symm
def Xe:Bf P ct:=RX "abs" (.builtin "abs") HC false (λ aa e=>nomatch e) (λ F G ρ σ s Kv a v aa O R va h=>h.u (Q:=λ v=>WP P F.A (call (.builtin "abs") [v] []) (PE F ct.aS G ρ Kv) s) va λ i t h=>X.any (PyProof.Rows.call_abs_int λ u tk=>PE.here (R.toks _) ((Tp i).symm▸VR.mF) h))
 (lf:=λ t s=>ob (mh t) λ q=>af [(Sy (Oz q),s)]) (lk:=λ t s outs a σ h ga gs=>ob.u h λ q e h=>mh.u (Q:=λ a=>D2 (HC a σ) GV outs) e ga λ i i0 i1=>D2.one (a:=AV.int i.natAbs) h (tR (Gc i0 i1).1 (Gc i0 i1).2) gs λ K k=>k)
def adA(q:c9)(as:SL P ct)(p:c9):SE P ct:=xB Xe q as p
theorem VR.acG{G:BM}{ρ:ae au}{i j:Int}{t u:kq}:VR G ρ (.int (aX (decide (j > i)) j i)) (if j > i then .int j u else .int i t):=by
 by_cases c:j > i
 ·rw[dq c,cz c]; exact VR.mF
 ·rw[bC c,dj c]; exact VR.mF
def Tz:Bf P ct:=bf2 "max" (.builtin "max") QX false (λ aa e=>nomatch e) (λ F G ρ σ s Kv a b v w aa O R va vb h=>h.u (Q:=λ v=>WP P F.A (call (.builtin "max") [v,w] []) (PE F ct.aS G ρ Kv) s) va λ i t h=>h.u (Q:=λ w=>WP P F.A (call (.builtin "max") [.int i t,w] []) (PE F ct.aS G ρ Kv) s) vb λ j u h=>
  X.any (max_two_ints O.room.2.2 λ h' tk hk=>PE.here (R.grow (s':={s with heap:=h',toks:=tk}) hk ⟨rfl,rfl,rfl⟩) VR.acG h))
 (lf:=λ t u s=>ob (lr t) λ i=>ob (lr u) λ j=>af [(.ex (.int (aX (decide (j.1 > i.1)) j.1 i.1)),s)]) (lk:=λ t u s outs a b σ h ga gb gs=>ob.u h λ i aa h=>ob.u h λ j aa h=>(ly ga i.2).symm▸(ly gb j.2).symm▸D2.one (a:=AV.int (aX (decide (j.1 > i.1)) j.1 i.1)) h rfl gs λ K k=>k)
def aad(q:c9)(as:SL P ct)(p:c9):SE P ct:=xB Tz q as p
def HD:vY:=λ a σ K=>lV a σ.mem λ ns=>aX ns.isEmpty False (K (.int (Fa ns)) σ)
def QY:vY:=λ a σ K=>lV a σ.mem λ ns=>aX ns.isEmpty False (K (.int (CY ns)) σ)
theorem MF:∀{ns:ae Int} {vs:ae ak},cx ns vs->∃l:ae (Int×kq),vs=l.map (λ p=> .int p.1 p.2)/\l.map (·.1)=ns
 |[],_=>λ h=>h.u0 (Q:=λ vs=>∃l:ae (Int×kq),vs=l.map (λ p=> .int p.1 p.2)/\l.map (·.1)=[]) ⟨[],rfl,rfl⟩
 |i::r,_=>λ h=>h.uc (Q:=λ vs=>∃l:ae (Int×kq),vs=l.map (λ p=> .int p.1 p.2)/\l.map (·.1)=i::r) λ t vs h=>(MF h).elim λ l z=>⟨(i,t)::l,ah (eC i t::·) z.1,ah (i::·) z.2⟩
theorem CD{h:Heap}{l:au}{o:Obj}{us:bD ak}{ns:ae Int}(ho:h.get? l=af o)(hl:iY o us)(hi:cx ns us.toList):∃xs:bD (Int×kq),h.IsList l (intItems xs)/\xs.toList.map (·.1)=ns:=
 (MF hi).elim λ ps z=>⟨ps.toArray,(uK.mp (z.1.trans (Array.toList_map).symm):us=intItems ps.toArray)▸⟨o,ho,hl.is⟩,z.2⟩
theorem Gp{xs:bD (Int×kq)}{ns:ae Int}(e:xs.toList.map (·.1)=ns){b:Nat}(hb:b<=xs.size - 1){m:Int}(hm:m∈ns){le:Int->Int->Prop}(abd:∀{x y},le x y->le y x->x=y)(h1:∀x∈ns,le x m)(h2:∀j,j<=xs.size - 1->le (numAt xs j) (numAt xs b)):numAt xs b=m:=
 have sz:ns.length=xs.size:=e▸(bL _).trans bh
 (mem_getD hm).elim λ j hj=>have lt:j < xs.size:=sz▸hj.1; abd (h1 _ (((numAt_eq xs b).trans (ah (List.getD · b 0) e)).symm▸getD_mem (sz.symm▸aT hb (Nat.sub_lt (aT (oA j) lt) Nat.one_pos))))
  ((((numAt_eq xs j).trans (ah (List.getD · j 0) e)).trans hj.2)▸h2 j (Nat.le_sub_one_of_lt lt))
theorem neE{ns:ae Int}{k:Prop}(h:aX ns.isEmpty False k):ns≠[]/\k:=by
 rcases ns with _|⟨n,r⟩
 ·exact h.elim
 ·exact⟨lM _ _,h⟩
theorem Gj{xs:bD (Int×kq)}{ns:ae Int}(e:xs.toList.map (·.1)=ns)(h:ns≠[]):0 < xs.size:=bh▸(bL (f:=λ p:Int×kq=>p.1))▸e▸fS.mpr h
noncomputable def So(xs:ae AV):aq {ns:ae Int // intsOf xs=af ns}:=match h:intsOf xs with
 |some ns=>af ⟨ns,rfl⟩
 |none=>none
def LL(a:AV)(m:ae AO):aq {ns:ae Int // ∀K:ae Int->Prop,K ns->lV a m K}:=match a with
 | .own p=>jN (bM m p) λ o ho=>match o,ho with
  | .lst xs,ho=>ob (So xs) λ ns=>af ⟨ns.1,λ K z=>dI ho (qC ns.2 z)⟩
  | .il ns,ho=>af ⟨ns,λ K z=>dI ho z⟩
  |_,_=>none
 | .row ns=>af ⟨ns,λ K z=>z⟩
 | .lst xs=>ob (So xs) λ ns=>af ⟨ns.1,λ K z=>qC ns.2 z⟩
 |_=>none
def T9(a:AV)(σ:St):aq {r:AV×St // tA (HD a σ) r}:=ob (LL a σ.mem) λ ns=>bE (!ns.1.isEmpty) λ h=>af ⟨(.int (Fa ns.1),σ),λ K z=>ns.2 _ ((ah (aX · False _) (nb h)).mpr z)⟩
def TA:Bf P ct:=RX "max" (.builtin "max") HD false (λ aa e=>nomatch e) (λ F G ρ σ s Kv a v aa O R va h=>h.u (Q:=λ v=>WP P F.A (call (.builtin "max") [v] []) (PE F ct.aS G ρ Kv) s) R va λ l o us ns ho hl hi h=>have h:=neE h
  (CD ho hl hi).elim λ xs e=>X.any (max_intList O.room.2.2 e.1 (Gj e.2 h.1) λ v h' tk hv hk=>(intItems_at hv).elim λ t ev=>ev.symm▸have b:=argBest_gt (numAt xs) (xs.size - 1); have m:=y5 ns h.1
   (Gp (le:=(·<=·)) e.2 b.1 m.1 e7 m.2 b.2).symm▸PE.here (R.grow (s':={s with heap:=h',toks:=tk}) hk ⟨rfl,rfl,rfl⟩) VR.mF h.2)) (lf:=XG T9) (lk:=z5)
def aae(q:c9)(as:SL P ct)(p:c9):SE P ct:=xB TA q as p
def TB:Bf P ct:=RX "min" (.builtin "min") QY false (λ aa e=>nomatch e) (λ F G ρ σ s Kv a v aa O R va h=>h.u (Q:=λ v=>WP P F.A (call (.builtin "min") [v] []) (PE F ct.aS G ρ Kv) s) R va λ l o us ns ho hl hi h=>have h:=neE h
  (CD ho hl hi).elim λ xs e=>X.any (min_intList O.room.2.2 e.1 (Gj e.2 h.1) λ v h' tk hv hk=>(intItems_at hv).elim λ t ev=>ev.symm▸have b:=argBest_lt (numAt xs) (xs.size - 1); have m:=tQ ns h.1
   (Gp (le:=λ x y=>y<=x) e.2 b.1 m.1 (λ h k=>e7 k h) m.2 b.2).symm▸PE.here (R.grow (s':={s with heap:=h',toks:=tk}) hk ⟨rfl,rfl,rfl⟩) VR.mF h.2))
def S_(q:c9)(as:SL P ct)(p:c9):SE P ct:=xB TB q as p
noncomputable def Nk(i:Int):aC:=decide (-1073741824 < i/\i < 1073741824)
theorem zp{i:Int}(h:Nk i=true): -1073741824 < i/\i < 1073741824:=bg h
theorem PE.fzn{F:Fd}{aS:ae bI}{G:BM}{ρ:ae au}{σ:St}{s s':ar}{Kv:AV->St->Prop}{a:au}{o:Obj}{av:AV}(R:RF F aS G ρ σ s)(ha:s.heap.get? a=none)(he:s'.heap.get? a=af o)(k:∀b o,s.heap.get? b=af o->s'.heap.get? b=af o)(z:s'.gens=s.gens/\s'.gens=s.gens/\s'.os=s.os)
  (va:dG G (G.with a o)->(G.with a o) a=af o->VR (G.with a o) ρ av (.ref a)) (h:Kv av σ):PE F aS G ρ Kv (.ref a) s':=
 have R':=R.freeze ha he k z
 PE.up R'.2 (Ext.refl _) (PE.here R'.1 (va R'.2 (BM.zv _ _ _)) h)
theorem tT{F:Fd}{aS:ae bI}{G:BM}{ρ:ae au}{σ:St}{s:ar}{Kv:AV->St->Prop}{a b c:Int}{t u v:kq}{tk:Nat}(R:RF F aS G ρ σ s)(h:Kv (.j_ a b c) σ):
  PE F aS G ρ Kv (.ref s.heap.objs.size) {s with heap:=s.heap.push {cls:= .type "range",data:= .fields #[.int a t, .int b u, .int c v]},toks:=tk}:=
 PE.fzn (s':={s with heap:=s.heap.push {cls:= .type "range",data:= .fields #[.int a t, .int b u, .int c v]},toks:=tk}) (av:= .j_ a b c) R R.K0 (aN _ rfl) (λ b o e=>aA _ e) ⟨rfl,rfl,rfl⟩ (λ aa e=>i5 _ ⟨t,u,v,rfl,e⟩) h
def abg:Bf P ct:=RX "range" (.type "range") (λ a σ K=>j9 a λ n=>K (.j_ 0 n 1) σ) false (λ aa e=>nomatch e) (λ F G ρ σ s Kv a v aa O R va h=>h.u (Q:=λ v=>WP P F.A (call (.type "range") [v] []) (PE F ct.aS G ρ Kv) s) va λ n t h=>X.any (call_range_1 (tT R h)))
 (lf:=λ t s=>ob (lr t) λ n=>af [(.ex (.j_ 0 n.1 1),s)]) (lk:=λ t s outs a σ h ga gs=>ob.u h λ n aa h=>(ly ga n.2).symm▸D2.one (a:=AV.j_ 0 n.1 1) h rfl gs λ K z=>z)
def HZ(q:c9)(as:SL P ct)(p:c9):SE P ct:=xB abg q as p
def abh:Bf P ct:=bf2 "range" (.type "range") (λ a b σ K=>j9 a λ m=>j9 b λ n=>K (.j_ m n 1) σ) false (λ aa e=>nomatch e) (λ F G ρ σ s Kv a b v w aa O R va vb h=>h.u (Q:=λ v=>WP P F.A (call (.type "range") [v,w] []) (PE F ct.aS G ρ Kv) s) va λ m t h=>h.u (Q:=λ w=>WP P F.A (call (.type "range") [.int m t,w] []) (PE F ct.aS G ρ Kv) s) vb λ n u h=>X.any (call_range_2 (tT R h)))
 (lf:=λ t u s=>ob (lr t) λ m=>ob (lr u) λ n=>af [(.ex (.j_ m.1 n.1 1),s)]) (lk:=λ t u s outs a b σ h ga gb gs=>ob.u h λ m aa h=>ob.u h λ n aa h=>(ly ga m.2).symm▸(ly gb n.2).symm▸D2.one (a:=AV.j_ m.1 n.1 1) h rfl gs λ K z=>z)
def Ry(q:c9)(as:SL P ct)(p:c9):SE P ct:=xB abh q as p
def r3B(k:Int):aC:=Nk k&&(aX (decide (k=0)) false true)
def SW:xX:=λ vs σ K=>Y7 vs λ a b c=>j9 a λ m=>j9 b λ n=>j9 c λ k=>cK (r3B k) (K (.j_ m n k) σ)
theorem Vn{k:Int}(h:r3B k=true):k≠0/\Builtin.divisionGoesByPylong 0 k=Builtin.divisionGoesByPylong 0 k/\-1073741824 < k/\k < 1073741824:=⟨λ e=>ay ((ah (aX · false true) (cz e)).symm.trans (aF h).2),rfl,zp (aF h).1⟩
theorem Vo{a k:Int}(h:r3B k=true):Builtin.divisionGoesByPylong a k=false:=oF (by have:=zp (aF h).1; omega)
noncomputable def V1:(ts:ae TV)->aq {t:TV×TV×TV // ts=[t.1,t.2.1,t.2.2]}
 |[t,u,v]=>af ⟨(t,u,v),rfl⟩
 |_=>none
theorem dH.v3{t u w:TV}{ts:ae TV}{vs:ae AV}{Q:ae AV->Prop}(e:ts=[t,u,w])(g:dH ts vs)(k:∀a b c,GV t a->GV u b->GV w c->Q [a,b,c]):Q vs:=(e▸g:dH [t,u,w] vs).uc (Q:=Q) λ a r ga g=>g.u2 (Q:=λ r=>Q (a::r)) λ b c=>k a b c ga
def abi:Bf P ct where
 nm:="range"
 f:= .type "range"
 lY:=SW
 jj:=false
 hf:=λ aa e=>nomatch e
 snd:=λ F G ρ σ s Kv dx vs aa O R va h=>va.a3 (Q:=λ vs=>WP P F.A (call (.type "range") vs []) (PE F ct.aS G ρ Kv) s) h λ a b c u v w h va vb vc=>h.u (Q:=λ u=>WP P F.A (call (.type "range") [u,v,w] []) (PE F ct.aS G ρ Kv) s) va λ m t h=>h.u (Q:=λ v=>WP P F.A (call (.type "range") [.int m t,v,w] []) (PE F ct.aS G ρ Kv) s) vb λ n t' h=>
  h.u (Q:=λ w=>WP P F.A (call (.type "range") [.int m t, .int n t',w] []) (PE F ct.aS G ρ Kv) s) vc λ k t'' h=>h.u λ hk h=>X.any (call_range_3 (Vn hk).1 (tT R h) (.inl (Vo hk)))
 lf:=λ ts s=>ob (V1 ts) λ t=>ob (lr t.1.1) λ m=>ob (lr t.1.2.1) λ n=>ob (lr t.1.2.2) λ k=>nB (r3B k.1) (af [(.ex (.j_ m.1 n.1 k.1),s)])
 lk:=λ ts s outs vs σ h g gs=>ob.u h λ t aa h=>ob.u h λ m aa h=>ob.u h λ n aa h=>ob.u h λ k aa h=>nB.u h λ hk h=>dH.v3 t.2 g (Q:=λ vs=>D2 (SW vs σ) GV outs) λ a b c ga gb gc=>(ly ga m.2).symm▸(ly gb n.2).symm▸(ly gc k.2).symm▸D2.one (a:=AV.j_ m.1 n.1 k.1) h rfl gs λ K z=>cK.i hk z
def Rz(q:c9)(as:SL P ct)(p:c9):SE P ct:=xB abi q as p
noncomputable def QK(a c:Int):Nat->ae Int
 |0=>[]
 |n+1=>a::QK (a+c) c n
theorem zj(c:Int):∀(n:Nat) (a:Int) (vs:ae ak),vs.length=n->(∀(i:Nat) v,vs[i]?=af v->∃t,v= .int (a+i * c) t)->cx (QK a c n) vs
 |0,_,[]=>λ aa aa=>rfl
 |0,_,_::_=>λ h aa=>bt h (cy _)
 |_+1,_,[]=>λ h aa=>bt h.symm (cy _)
 |n+1,a,v::vs=>λ hl h=>(h 0 v rfl).elim λ t ht=>⟨t,vs,ah (·::vs) (ht.trans (ah (eC · t) ((ah (a+·) (Int.zero_mul c)).trans (Int.add_zero a)))),zj c n (a+c) vs (eJ hl) λ i w hw=>(h (i+1) w hw).imp λ t' e=>e.trans (ah (eC · t')
   ((ah (a+·) ((Int.add_mul (i:Int) 1 c).trans ((ah ((i:Int) * c+·) (Int.one_mul c)).trans (Int.add_comm ..)))).trans (Int.add_assoc a c _).symm))⟩
def vF:vY:=λ a σ K=>match a with
 | .j_ a b c=>cK (Builtin.Range.small a b c&&bB (Builtin.Range.rangeSize a b c).toNat 1000) (K (.row (QK a c (Builtin.Range.rangeSize a b c).toNat)) σ)
 |a=>lV a σ.mem λ ns=>cK (bB ns.length 1000) (K (.row ns) σ)
theorem Hz{F:Fd}{aS:ae bI}{G:BM}{ρ:ae au}{σ:St}{s:ar}{Kv:AV->St->Prop}{h':Heap}{tk:Nat}{xs:bD ak}{c':Nat}{ns:ae Int}(R:RF F aS G ρ σ s)(hk:∀b o,s.heap.get? b=af o->h'.get? b=af o)
  (he:h'.get? s.heap.objs.size=af {cls:= .type "list",dict:=none,data:= .seq xs c',slots:=#[]}) (hi:cx ns xs.toList) (h:Kv (.row ns) σ):PE F aS G ρ Kv (.ref s.heap.objs.size) {s with heap:=h',toks:=tk}:=
 PE.fzn (s':={s with heap:=h',toks:=tk}) (av:= .row ns) R R.K0 he hk ⟨rfl,rfl,rfl⟩ (λ aa e=>VR.QO e ⟨_,rfl⟩ hi) h
theorem tO{F:Fd}{G:BM}{ρ:ae au}{σ:St}{s:ar}{Kv:AV->St->Prop}{a:AV}{v:ak}(R:RF F ct.aS G ρ σ s)(va:VR G ρ a v)(h:lV a σ.mem λ ns=>cK (bB ns.length 1000) (Kv (.row ns) σ)):
  aH (aE P.prog P.w) F.A (call (.type "list") [v]) (PE F ct.aS G ρ Kv) dw s:=
 h.u (Q:=λ v=>aH (aE P.prog P.w) F.A (call (.type "list") [v]) (PE F ct.aS G ρ Kv) dw s) R va λ l o us ns ho hl hi h=>h.u λ hz h=>hl.is.2.elim λ n hd=>
  call_list_seq (hsz:=aG (aU (bh.symm.trans hi.length)) (aG (aQ hz) (dZ.symm▸(by decide:1000<=16777216)))) l (.inl rfl) ho hl.is.1 hd λ h' c' hk he=>Hz (tk:=s.toks) R hk he hi h
def z6(a:AV)(σ:St):aq {r:AV×St // tA (λ K=>lV a σ.mem λ ns=>cK (bB ns.length 1000) (K (.row ns) σ)) r}:=ob (LL a σ.mem) λ ns=>bE (bB ns.1.length 1000) λ h=>af ⟨(.row ns.1,σ),λ K z=>ns.2 _ (cK.i h z)⟩
def T8(a:AV)(σ:St):aq {r:AV×St // tA (vF a σ) r}:=match a with
 | .j_ a b c=>bE (Builtin.Range.small a b c&&bB (Builtin.Range.rangeSize a b c).toNat 1000) λ h=>af ⟨(.row (QK a c (Builtin.Range.rangeSize a b c).toNat),σ),λ K z=>cK.i h z⟩
 | .own p=>z6 (.own p) σ
 | .row ns=>z6 (.row ns) σ
 | .lst xs=>z6 (.lst xs) σ
 |_=>none
noncomputable def ach(t:TV):aq {v:Int // ∀x,GV t x->x= .int v}:=match t with
 | .ex (.int i)=>af ⟨i,λ aa g=>g⟩
 | .nr v _ _=>af ⟨v,λ aa g=>g.1⟩
 |_=>none
theorem CC{i:Int}{x:AV}{r:ae AV}{l:ae Int}(e:x= .int i)(h:intsOf r=af l):intsOf (x::r)=af (i::l):=by
 subst e
 show(match intsOf r with|some l=>af (i::l)|none=>none)=_
 rw[h]
noncomputable def Sp:(ts:ae TV)->aq {r:ae Int // ∀us,dH ts us->intsOf us=af r}
 |[]=>af ⟨[],λ us g=>g.u0 (Q:=λ us=>intsOf us=af []) rfl⟩
 |t::ts=>ob (ach t) λ v=>ob (Sp ts) λ r=>af ⟨v.1::r.1,λ us g=>g.uc (Q:=λ us=>intsOf us=af (v.1::r.1)) λ u x g1 g2=>CC (v.2 _ g1) (r.2 _ g2)⟩
def Sx(t:TV)(s:AS):aq (ae (TV×AS)):=ob (nR t) λ p=>jN (gU s.mem p.1) λ o ho=>ob (oLst o) λ vs=>ob (Sp vs.1) λ r=>nB (bB r.1.length 1000) (af [(.ex (.row r.1),s)])
theorem L_{t:TV}{s:AS}{outs:ae (TV×AS)}{a:AV}{σ:St}(h:Sx t s=af outs)(ga:GV t a)(gs:GS s σ):D2 (vF a σ) GV outs:=
 ob.u h λ p aa h=>jN.u h λ o ho h=>ob.u h λ vs aa h=>ob.u h λ r aa h=>nB.u h λ hl h=>(ly ga p.2).symm▸(gs.vs ho vs.2 λ aa z=>z).elim λ us z=>D2.one (a:=AV.row r.1) h rfl gs λ K k=>dI z.1 (qC (r.2 us z.2) (cK.i hl k))
theorem Ma{F:Fd}{G:BM}{ρ:ae au}{σ:St}{s:ar}{Kv:AV->St->Prop}{a:AV}{v:ak}(O:gM P ct F)(R:RF F ct.aS G ρ σ s)(va:VR G ρ a v)(h:vF a σ Kv):aH (aE P.prog P.w) F.A (call (.type "list") [v]) (PE F ct.aS G ρ Kv) dw s:=by
 rcases a with _|_|_|_|_|p|_|_|_|_|_|xs|ns|_|_|⟨x,y,z⟩|_|_
 case j_=>
  exact cK.u h λ hb h=>aD va λ r w=>w.elim λ t w=>w.elim λ u w=>w.elim λ v w=>w.1.symm▸
   have hn:Builtin.Range.rangeSize x y z=((Builtin.Range.rangeSize x y z).toNat:Int):=(sp (sU x y z)).symm
   call_list_range O.room.2.2 (R.rm.kg _ _ w.2) (aF hb).1 hn (aG (aQ (aF hb).2) (by decide)) λ h' tk afn c' hk he hi=>Hz R hk he (zj z _ x _ (bh.trans hi.1) λ i v hv=>hi.2 i v (bP.symm.trans hv)) h
 case own=>exact tO R va h
 case lst=>exact tO R va h
 case row=>exact tO R va h
 all_goals exact h.elim
def Tx:Bf P ct:=RX "list" (.type "list") vF false (λ aa e=>nomatch e) (λ F G ρ σ s Kv a v aa O R va h=>X.any (Ma O R va h))
 (lf:=λ t s=>oe (Sx t s) (XG T8 t s)) (lk:=λ t s outs a σ h ga gs=>oe.v h (λ h=>L_ h ga gs) λ h=>z5 _ _ _ _ _ h ga gs)
def Wj(q:c9)(as:SL P ct)(p:c9):SE P ct:=xB Tx q as p
end
namespace X
theorem Expr{J:aC}{prog:aK}{w:bw}{A:bn}{s:ar}{env:Env}{e:aB}{pos:c9}{Q:my->ar->Prop}(hi:A7 env=false)(hs:oD e none pos.line env=pure false)
  (h:cL J (aE prog w) A (eval e env) (λ aa s'=>Q .next s') s):cL J (aE prog w) A (exec (.Expr e pos) env) Q s:=by
 rw[exec_Expr env e pos hi hs]
 exact at_ (cM (mono h λ v s' h'=>any (wpAny_dropValue h')))
end X
section
variable{P:cC}{ct:Ct}
noncomputable def Dr(e:SE P ct)(p:c9):SX P ct where
 bA:= .Expr e.bA p
 run:=λ σ K=>e.run σ λ aa aI=>K .d8 aI
 ch:=vt 2 e.bA&&e.ch
 ok:=λ c F G ρ σ s Kv O R h=>X.Expr (by unfold A7; rw[O.kind]; rfl) (HI (aF c).1) (X.mono (e.ok (aF c).2 F G ρ σ s _ O R h) λ v s₁ z=>z.u λ G' ρ' a b7 g x R' va k=>PF.d8 g x R' k)
 ab:=Kh e.ab λ aa s=>af [(.d8,s)]
 cO:=λ fo=>nJ fo λ t s outs a σ h ga gs=>am h▸D2.fk rfl gs λ K z=>z
structure Bm(P:cC)(ct:Ct) where
 name:bI
 idOf:AV->ae AO->aq cS
 lY:cS->AV->ae AV->St->(AV->St->Prop)->Prop
 jj:aC
 YO:∀F G ρ σ s a u id pl (Q:ak×ae ak->ar->Prop),gM P ct F->RF F ct.aS G ρ σ s->VR G ρ a u->idOf a σ.mem=af id->Q (.builtin id,[u]) s->aH (aE P.prog P.w) F.A (fG u name pl) Q dw s
 snd:∀F G ρ σ s Kv id a dx u vs,(jj=true->P.j=true)->gM P ct F->RF F ct.aS G ρ σ s->VR G ρ a u->bJ G ρ dx vs->lY id a dx σ Kv->WP P F.A (call (.builtin id) (u::vs) []) (PE F ct.aS G ρ Kv) s
 idt:(t:TV)->(s:AS)->aq {id:cS // ∀a σ,GV t a->GS s σ->idOf a σ.mem=af id}:=λ aa aa=>none
 lf:cS->TV->ae TV->AS->aq (ae (TV×AS)):=λ aa aa aa aa=>none
 lk:∀id t ts s outs a vs σ,lf id t ts s=af outs->GV t a->dH ts vs->GS s σ->D2 (lY id a vs σ) GV outs:=by nofun
noncomputable def xBm(B:Bm P ct)(o:SE P ct)(ap:c9)(as:SL P ct)(p:c9):SE P ct where
 bA:= .Call (.Attribute o.bA B.name ap) as.bA [] p
 ab:=λ s=>bO (o.ab s) λ t s=>ob (B.idt t s) λ id=>bO (as.ab s) λ ts s=>B.lf id.1 t ts s
 cO:=λ fo s outs h σ gs=>(o.cO fo).bind (C:=λ a aI K=>sP (B.idOf a aI.mem) λ id=>as.run aI λ vs aV=>B.lY id a vs aV K) h gs λ t s l h a σ ga gs=>ob.u h λ id aa h=>
  D2.eq ((as.cO fo).bind (C:=λ vs aV K=>B.lY id.1 a vs aV K) h gs λ ts s l h vs σ gv gs=>B.lk id.1 t ts s l a vs σ h ga gv gs) λ K k=>qC (id.2 a σ ga gs) k
 run:=λ σ K=>o.run σ λ a aI=>sP (B.idOf a aI.mem) λ id=>as.run aI λ vs aV=>B.lY id a vs aV K
 ch:=mtB o.bA as.bA ap p&&((!B.jj||P.j)&&(o.ch&&as.ch))
 star:=λ aa aa=>rfl
 ok:=λ c F G ρ σ s Kv O R h=>have c1:=aF (aF c).2
  (Hb (aF c).1 B.name F.env (as.plain _ _)).elim λ pl he=>X.BW he (X.mono (o.ok (aF c1.2).1 F G ρ σ s _ O R h) λ u s₁ z=>z.u λ dW c8 a aI fK fh dS va bH=>bH.u λ id Wx bH=>X.any (B.YO F dW c8 aI s₁ a u id pl _ O dS va Wx
   (X.ui (Pm:=λ aa=>True) (as.plain _ _) (oU (f:= .builtin id) (λ aa e=>nomatch e)) (X.mono (as.ok (aF c1.2).2 F dW c8 aI s₁ _ _ O dS bH) λ vs bp z=>z.u λ jp g6 dx aV jf ju gN q6 cW=>
    ⟨trivial,X.mono (B.snd F jp g6 aV bp Kv id a dx u vs (λ e=>(ah (λ b=>(!b||P.j)=true) e).mp c1.1) O gN (va.up jf ju) q6 cW) λ aa aa=>PE.up (fK.trans jf) (fh.trans ju)⟩))))
section
variable{F:Fd}{G:BM}{ρ:ae au}{σ:St}{s:ar}{p:Nat}{a:AV}{v:ak}{o:AO}{Kv:AV->St->Prop}{id:cS}{vs:ae AV}
noncomputable def OD(o:AO):aq cS:=match o with
 | .lst _=>af "list.append"
 | .ba _=>af "bytearray.append"
 |_=>none
def pr(f:AO->aq cS)(a:AV)(mem:ae AO):aq cS:=match a with
 | .own p=>(match bM mem p with
  |some o=>f o
  |none=>none)
 |_=>none
theorem pr.u{f:AO->aq cS}{mem:ae AO}{Q:AV->Prop}(h:pr f a mem=af id)(k:∀p o,bM mem p=af o->f o=af id->Q (.own p)):Q a:=by
 rcases a with _|_|_|_|_|p|_|_|_|_|_|_|_|_|_|_|_|_
 case own=>
  rcases e:bM mem p with _|o
  ·exact cu ((ah (λ x=>(match x with|some o=>f o|none=>none)) e).symm.trans h)
  ·exact k p o e ((ah (λ x=>(match x with|some o=>f o|none=>none)) e).symm.trans h)
 all_goals exact cu h
theorem Db{f:AO->aq cS}{mem:ae AO}(e:bM mem p=af o):pr f (.own p) mem=f o:=ah (λ x=>(match x with|some o=>f o|none=>none)) e
theorem yh:PlainAttrs "list":=⟨⟨_,list_getattribute,canon_list_getattribute⟩,list_getattr_none⟩
theorem Mg{M:ir}{A:bn}{l:au}{o:Obj}{vs:bD ak}{name:bI}{pl:ie aC}{Q:ak×ae ak->ar->Prop}(slot:Bq "list" name id)(hty:rN (.builtin id)=pure (.type "method_descriptor"))
  (ho:s.heap.get? l=af o) (hl:iY o vs) (h:Q (.builtin id,[.ref l]) s):aH M A (fG (.ref l) name pl) Q dw s:=
 pJ (T:="list") ⟨o,ho,hl.is.1⟩ yh slot hty (λ a e=>vO e▸⟨o,ho,hl.elim λ n e=>ah Obj.dict e⟩) h
theorem Go{M:ir}{A:bn}{l:au}{bs:ae bZ}{name:bI}{pl:ie aC}{Q:ak×ae ak->ar->Prop}(slot:Bq "bytearray" name id)(hty:rN (.builtin id)=pure (.type "method_descriptor"))
  (ho:s.heap.get? l=af (nK bs)) (h:Q (.builtin id,[.ref l]) s):aH M A (fG (.ref l) name pl) Q dw s:=
 pJ (dd ho) yf slot hty (λ a e=>vO e▸⟨_,ho,rfl⟩) h
def W_(o:AO)(id:cS)(p:Nat)(vs:ae AV)(σ:St)(K:AV->St->Prop):Prop:=match o with
 | .lst xs=>Hl vs λ v=>id="list.append"/\cK (bB xs.length 1000000) (K .none (σ.put p (.lst (xs++[v]))))
 | .ba bs=>Hl vs λ v=>id="bytearray.append"/\j9 v λ m=>need (0<=m/\m < 256/\bs.length < 1000000) (K .none (σ.put p (.ba (bs++[eE m.toNat]))))
 |_=>False
def tB(id:cS)(a:AV)(vs:ae AV)(σ:St)(K:AV->St->Prop):Prop:=lI a λ p=>pG σ.mem p λ o=>W_ o id p vs σ K
theorem OG{us:ae ak}{adr:au}{ob:Obj}{jj:aC}(hj:jj=true->P.j=true)(R:RF F ct.aS G ρ σ s)(jK:ρ[p]?=af adr)(h1:s.heap.get? adr=af ob)(q:OR G ρ o ob)(q6:bJ G ρ vs us)(h:W_ o id p vs σ Kv)(Wx:id="bytearray.append"->jj=true):
  WP P F.A (call (.builtin id) (.ref adr::us) []) (PE F ct.aS G ρ Kv) s:=by
 rcases o with xs|_|_|_|_|_|bs|_
 case lst=>exact Hl.u (Q:=λ vs=>bJ G ρ vs us->WP P F.A (call (.builtin id) (.ref adr::us) []) (PE F ct.aS G ρ Kv) s) h (λ v h q6=>q6.u1 (Q:=λ us=>WP P F.A (call (.builtin id) (.ref adr::us) []) (PE F ct.aS G ρ Kv) s) λ u vu=>h.1▸aD q λ l q=>cK.u h.2 λ hz hk=>
   X.any (JB (q.1.plain h1) (λ h' L' sb=>(iY.of L').elim λ o' w=>PE.here (R.rx (v8:= .lst (xs++[v])) (s':={s with heap:=h'}) jK w.1 ⟨l.push u,w.2,Jr.symm▸q.2.append (.cons vu .nil)⟩ (λ b o n e=>sb.extBut b o n e) ⟨rfl,rfl,rfl⟩) VR.none_ hk)
    (aG (aU (bh.symm.trans q.2.length)) (aG (aQ hz) (dZ.symm▸(by decide:1000000<=16777216)))))) q6
 case ba=>exact Hl.u (Q:=λ vs=>bJ G ρ vs us->WP P F.A (call (.builtin id) (.ref adr::us) []) (PE F ct.aS G ρ Kv) s) h (λ v h q6=>q6.u1 (Q:=λ us=>WP P F.A (call (.builtin id) (.ref adr::us) []) (PE F ct.aS G ρ Kv) s) λ u vu=>h.1▸h.2.u (Q:=λ u=>WP P F.A (call (.builtin "bytearray.append") [.ref adr,u] []) (PE F ct.aS G ρ Kv) s) vu λ m t hk=>hk.u λ b hk=>
   X.jt (hj (Wx h.1)) (Im ((show ob=nK bs from q)▸h1) b.1 b.2.1 (b_ b.2.2 (dZ.symm▸(by decide:1000000 < 16777216))) λ h' e1 e2=>PE.here (R.rx (v8:= .ba _) (s':={s with heap:=h'}) jK e1 rfl e2 ⟨rfl,rfl,rfl⟩) VR.none_ hk)) q6
 all_goals exact h.elim
theorem OE{u:ak}{pl:ie aC}{M:ir}{A:bn}{Q:ak×ae ak->ar->Prop}(R:RF F ct.aS G ρ σ s)(va:VR G ρ a u)(h:pr OD a σ.mem=af id)(q:Q (.builtin id,[u]) s):aH M A (fG u "append" pl) Q dw s:=
 pr.u (Q:=λ a=>VR G ρ a u->aH M A (fG u "append" pl) Q dw s) h (λ p o e h va=>R.own va e (Q:=λ u=>Q (.builtin id,[u]) s->aH M A (fG u "append" pl) Q dw s) (λ adr ob aa h1 q0 q=>by
  rcases o with xs|_|_|_|_|_|bs|_
  case lst=>exact aD q0 λ vs w=>Mg slot_list_append type_list_append h1 w.1 (am h▸q)
  case ba=>exact Go qi xu ((show ob=nK bs from q0)▸h1) (am h▸q)
  all_goals exact cu h) q) va
end
def vI(t:TV)(s:AS):aq {c:Nat×ae TV // t= .ex (.own c.1)/\gU s.mem c.1=af (.lst c.2)}:=ob (nR t) λ p=>jN (gU s.mem p.1) λ o ho=>ob (oLst o) λ vs=>af ⟨(p.1,vs.1),p.2,ho.trans (ah af vs.2)⟩
theorem GS.lst{s:AS}{σ:St}{t:TV}{a:AV}(gs:GS s σ)(c:{c:Nat×ae TV // t= .ex (.own c.1)/\gU s.mem c.1=af (.lst c.2)})(ga:GV t a){Q:AV->Prop}(k:∀us,bM σ.mem c.1.1=af (.lst us)->dH c.1.2 us->Q (.own c.1.1)):Q a:=
 (ly ga c.2.1).symm▸(gs.vs c.2.2 rfl λ aa z=>z).elim λ us z=>k us z.1 z.2
def W9(t:TV)(ts:ae TV)(s:AS):aq (ae (TV×AS)):=ob (vI t s) λ c=>ob (y9 ts) λ u=>nB (bB c.1.2.length 1000) (af [(.ex .none,s.put c.1.1 (.lst (c.1.2++[u.1])))])
theorem OC{t:TV}{ts:ae TV}{s:AS}{outs:ae (TV×AS)}{a:AV}{vs:ae AV}{σ:St}{q:Prop}(h:W9 t ts s=af outs)(ga:GV t a)(gv:dH ts vs)(gs:GS s σ):D2 (λ K=>tB "list.append" a vs σ K/\(("list.append":cS)="bytearray.append"->q)) GV outs:=
 ob.u h λ c aa h=>ob.u h λ u aa h=>nB.u h λ hz h=>gs.lst c ga (Q:=λ a=>D2 (λ K=>tB "list.append" a vs σ K/\(("list.append":cS)="bytearray.append"->q)) GV outs) λ us m g=>dH.v1 u.2 gv (Q:=λ vs=>D2 (λ K=>tB "list.append" (.own c.1.1) vs σ K/\_) GV outs) λ v gx=>
  D2.one (a:=AV.none) (σ:=σ.put c.1.1 (.lst (us++[v]))) h rfl ⟨gs.loc,gs.mem.set (o:= .lst c.1.2) c.2.2 rfl ⟨_,rfl,g.snoc gx⟩ (.inl rfl)⟩ λ K k=>⟨dI m ⟨rfl,cK.i (c6 (aG (aU g.len) (aG (aQ hz) (by decide)))) k⟩,λ h=>bt h (by decide)⟩
theorem VT{α:Type}{id s:cS}{x:aq α}{r:α}{Q:cS->Prop}(h:aX (id==s) x none=af r)(k:x=af r->Q s):Q id:=condB h (λ e h=>(a4.mp e).symm▸k h) λ aa h=>cu h
theorem I4{σ:St}{p:Nat}{us:ae AV}(e:bM σ.mem p=af (.lst us)):pr OD (.own p) σ.mem=af "list.append":=Db e
def Xj(jj:aC):Bm P ct where
 name:="append"
 idOf:=pr OD
 lY:=λ id a vs σ K=>tB id a vs σ K/\(id="bytearray.append"->jj=true)
 jj:=jj
 YO:=λ F G ρ σ s a u id pl Q O R va h q=>OE R va h q
 snd:=λ F G ρ σ s Kv id a dx u vs hj O R va q6 h=>lI.u (Q:=λ a=>VR G ρ a u->WP P F.A (call (.builtin id) (u::vs) []) (PE F ct.aS G ρ Kv) s) h.1 (λ p h' va=>h'.u λ o e h'=>R.own va e (Q:=λ u=>WP P F.A (call (.builtin id) (u::vs) []) (PE F ct.aS G ρ Kv) s) λ adr ob jK h1 q=>OG hj R jK h1 q q6 h' h.2) va
 idt:=λ t s=>ob (vI t s) λ c=>af ⟨"list.append",λ a σ ga gs=>gs.lst c ga (Q:=λ a=>pr OD a σ.mem=af "list.append") λ us m aa=>I4 m⟩
 lf:=λ id t ts s=>aX (id=="list.append") (W9 t ts s) none
 lk:=λ id t ts s outs a vs σ h ga gv gs=>VT (Q:=λ id=>D2 (λ K=>tB id a vs σ K/\(id="bytearray.append"->jj=true)) GV outs) h λ h=>OC h ga gv gs
def Wc(o:SE P ct)(ap:c9)(as:SL P ct)(p:c9)(jj:aC):SE P ct:=xBm (Xj jj) o ap as p
noncomputable def Ze(o:AO):aq cS:=match o with
 | .ba _=>af "bytearray.pop"
 |_=>none
def Vk(id:cS)(a:AV)(vs:ae AV)(σ:St)(K:AV->St->Prop):Prop:=lI a λ p=>pG σ.mem p λ o=>C9 o λ bs=>Vc vs (id="bytearray.pop"/\need (0 < bs.length/\bs.length < 1000000) (K .any (σ.put p (.ba bs.dropLast))))
theorem Hs{o:AO}{id:cS}(h:Ze o=af id):"bytearray.pop"=id/\∃bs,o= .ba bs:=by
 rcases o with _|_|_|_|_|_|bs|_
 case ba=>exact⟨am h,bs,rfl⟩
 all_goals exact cu h
def Xm:Bm P ct where
 name:="pop"
 idOf:=pr Ze
 lY:=Vk
 jj:=true
 YO:=λ F G ρ σ s a u id pl Q O R va h q=>pr.u (Q:=λ a=>VR G ρ a u->aH (aE P.prog P.w) F.A (fG u "pop" pl) Q dw s) h (λ p o e h va=>R.own va e (Q:=λ u=>Q (.builtin id,[u]) s->aH (aE P.prog P.w) F.A (fG u "pop" pl) Q dw s) (λ adr ob aa h1 q0 q=>(Hs h).2.elim λ bs eo=>
  Go uF DI ((show ob=nK bs from(eo▸q0:OR G ρ (.ba bs) ob))▸h1) ((Hs h).1▸q)) q) va
 snd:=λ F G ρ σ s Kv id a dx u vs hj O R va q6 h=>lI.u (Q:=λ a=>VR G ρ a u->WP P F.A (call (.builtin id) (u::vs) []) (PE F ct.aS G ρ Kv) s) h (λ p h' va=>h'.u λ o e h'=>R.own va e (Q:=λ u=>WP P F.A (call (.builtin id) (u::vs) []) (PE F ct.aS G ρ Kv) s) λ adr ob jK h1 q=>C9.u (Q:=λ o=>OR G ρ o ob->WP P F.A (call (.builtin id) (.ref adr::vs) []) (PE F ct.aS G ρ Kv) s) h' (λ bs h' q=>
  Vc.u (Q:=λ dx=>bJ G ρ dx vs->WP P F.A (call (.builtin id) (.ref adr::vs) []) (PE F ct.aS G ρ Kv) s) h' (λ h' q6=>q6.u0 (Q:=λ vs=>WP P F.A (call (.builtin id) (.ref adr::vs) []) (PE F ct.aS G ρ Kv) s) (h'.1.symm▸h'.2.u λ b hk=>
   X.jt (hj rfl) (Tv ((show ob=nK bs from q)▸h1) (fS.mp b.1) (eX (b_ b.2 (dZ.symm▸(by decide:1000000 < 16777216)))) λ h' i t e1 e2=>PE.here (R.rx (v8:= .ba _) (s':={s with heap:=h',toks:=s.toks+1}) jK e1 rfl e2 ⟨rfl,rfl,rfl⟩) (show VR G ρ .any (.int i t) from rfl) hk))) q6) q) va
def adG(o:SE P ct)(ap:c9)(as:SL P ct)(p:c9):SE P ct:=xBm Xm o ap as p
def IY(a:AV)(K:ae bZ->Prop):Prop:=match a with
 | .ky bs=>K bs
 |_=>False
theorem IY.u{a:AV}{K:ae bZ->Prop}{Q:AV->Prop}(h:IY a K)(k:∀bs,K bs->Q (.ky bs)):Q a:=by
 rcases a with _|_|_|_|bs|_|_|_|_|_|_|_|_|_|_|_|_|_
 case ky=>exact k bs h
 all_goals exact h.elim
noncomputable def R8(a:AV)(_:ae AO):aq cS:=match a with
 | .ky _=>af "bytes.count"
 |_=>none
theorem KJ{a:AV}{m:ae AO}{id:cS}(h:R8 a m=af id):"bytes.count"=id/\∃bs,a= .ky bs:=by
 rcases a with _|_|_|_|bs|_|_|_|_|_|_|_|_|_|_|_|_|_
 case ky=>exact⟨am h,bs,rfl⟩
 all_goals exact cu h
def EH(id:cS)(a:AV)(vs:ae AV)(σ:St)(K:AV->St->Prop):Prop:=IY a λ bs=>Hl vs λ v=>id="bytes.count"/\j9 v λ m=>need (0<=m/\m < 256) (K (.int (cnt bs.toArray m)) σ)
def Xk:Bm P ct where
 name:="count"
 idOf:=R8
 lY:=EH
 jj:=false
 YO:=λ F G ρ σ s a u id pl Q O R va h q=>have h:=KJ h; h.2.elim λ bs e=>(e▸va:VR G ρ (.ky bs) u).OX (Q:=λ u=>Q (.builtin id,[u]) s->aH (aE P.prog P.w) F.A (fG u "count" pl) Q dw s) (λ t q=>pJ (T:="bytes") (gF _ _ _) yg rq yk (λ a e=>nomatch e) (h.1▸q)) q
 snd:=λ F G ρ σ s Kv id a dx u vs hj O R va q6 h=>IY.u (Q:=λ a=>VR G ρ a u->WP P F.A (call (.builtin id) (u::vs) []) (PE F ct.aS G ρ Kv) s) h (λ bs h va=>va.OX (Q:=λ u=>WP P F.A (call (.builtin id) (u::vs) []) (PE F ct.aS G ρ Kv) s) λ t=>Hl.u (Q:=λ dx=>bJ G ρ dx vs->WP P F.A (call (.builtin id) (.bytes bs.toArray t::vs) []) (PE F ct.aS G ρ Kv) s) h (λ v h q6=>
  q6.u1 (Q:=λ vs=>WP P F.A (call (.builtin id) (.bytes bs.toArray t::vs) []) (PE F ct.aS G ρ Kv) s) λ w vw=>h.1.symm▸h.2.u (Q:=λ w=>WP P F.A (call (.builtin "bytes.count") [.bytes bs.toArray t,w] []) (PE F ct.aS G ρ Kv) s) vw λ m t' hk=>hk.u λ b hk=>X.any (BV b.1 b.2 (PE.here (R.toks _) VR.mF hk))) q6) va
 idt:=λ t s=>ob (VX t) λ c=>af ⟨"bytes.count",λ a σ ga gs=>aD (c.2▸ga:GV (.JI c.1) a) λ bs e=>e.1.symm▸rfl⟩
 lf:=λ id t ts s=>aX (id=="bytes.count") (ob (VX t) λ aa=>ob (y9 ts) λ u=>ob (lr u.1) λ i=>bE (decide (0<=i.1/\i.1 < 256)) λ aa=>af [(.ai,s)]) none
 lk:=λ id t ts s outs a vs σ h ga gv gs=>VT (Q:=λ id=>D2 (EH id a vs σ) GV outs) h λ h=>ob.u h λ c aa h=>ob.u h λ u aa h=>ob.u h λ i aa h=>bE.u h λ hd h=>aD (c.2▸ga:GV (.JI c.1) a) λ bs e=>e.1.symm▸dH.v1 u.2 gv (Q:=λ vs=>D2 (EH "bytes.count" (.ky bs) vs σ) GV outs) λ v gx=>
  D2.one (a:= .int (cnt bs.toArray i.1)) h ⟨_,rfl⟩ gs λ K k=>⟨rfl,(ly gx i.2).symm▸TP (bg hd) k⟩
def We(o:SE P ct)(ap:c9)(as:SL P ct)(p:c9):SE P ct:=xBm Xk o ap as p
def Av(o:AO)(K:ae (ae Int)->ae AV->Prop):Prop:=match o with
 | .bG ks vs=>K ks vs
 |_=>False
theorem Av.u{o:AO}{K:ae (ae Int)->ae AV->Prop}{Q:AO->Prop}(h:Av o K)(k:∀ks vs,K ks vs->Q (.bG ks vs)):Q o:=by
 rcases o with _|_|_|_|_|_|_|_
 case bG=>exact k _ _ h
 all_goals exact h.elim
def l_(a:AV)(mem:ae AO)(K:ae (ae Int)->ae AV->Prop):Prop:=match a with
 | .own p=>pG mem p λ o=>Av o K
 | .bG ks vs=>K ks vs
 |_=>False
theorem l_.u{a:AV}{mem:ae AO}{K:ae (ae Int)->ae AV->Prop}{Q:AV->Prop}(h:l_ a mem K)(k1:∀p ks vs,bM mem p=af (.bG ks vs)->K ks vs->Q (.own p))(k2:∀ks vs,K ks vs->Q (.bG ks vs)):Q a:=by
 rcases a with _|_|_|_|_|p|_|_|_|_|_|_|_|_|_|_|_|⟨ks,vs⟩
 case own=>exact pG.u h λ o e h=>Av.u (Q:=λ o=>bM mem p=af o->Q (.own p)) h (λ ks vs h e=>k1 p ks vs e h) e
 case bG=>exact k2 ks vs h
 all_goals exact h.elim
section
variable{F:Fd}{G:BM}{ρ:ae au}{σ:St}{s:ar}{a:AV}{v:ak}{K:ae (ae Int)->ae AV->Prop}
theorem AK(O:gM P ct F)(R:RF F ct.aS G ρ σ s){a:au}(h:a∈ρ):a≠di:=λ e=>(P.Jl _ (R.i8 O)).elim λ o ho=>dh (R.rm.fr a h) (e▸ho)
inductive Tb(G:BM)(ρ:ae au)(s:ar)(v:ak)(K:ae (ae Int)->ae AV->Prop):Prop
 |mk (d:au) (o:Obj) (es:bD bf) (n:Nat) (us:ae ak) (ks:ae (ae Int)) (dx:ae AV) (e:v= .ref d) (ho:s.heap.get? d=af o) (hc:o.ExactDict) (ns:d≠di) (hd:o.data= .dict es n) (hk:pB G ks es.toList us) (hv:bJ G ρ dx us) (hn:ks.Nodup) (k:K ks dx)
theorem y8(O:gM P ct F)(R:RF F ct.aS G ρ σ s)(va:VR G ρ a v)(h:l_ a σ.mem K):Tb G ρ s v K:=
 l_.u (Q:=λ a=>VR G ρ a v->Tb G ρ s v K) h (λ p ks vs e h va=>R.own va e (Q:=λ v=>Tb G ρ s v K) λ d ob hd ho q=>q.2.elim λ es z=>z.elim λ n z=>z.elim λ us z=>⟨d,ob,es,n,us,ks,vs,rfl,ho,q.1,AK O R (im hd),z.1,z.2.1,z.2.2.1,z.2.2.2,h⟩)
  (λ ks vs h va=>aD va λ d z=>z.elim λ ob z=>z.elim λ es z=>z.elim λ n z=>z.elim λ us z=>⟨d,ob,es,n,us,ks,vs,z.1,R.rm.kg _ _ z.2.1,z.2.2.1,z.2.2.2.2.2.2.2,z.2.2.2.1,z.2.2.2.2.1,z.2.2.2.2.2.1,z.2.2.2.2.2.2.1,h⟩) va
inductive aaZ(P:cC)(G:BM)(ρ:ae au)(s:ar)(v:ak)(K:ae (ae Int)->ae AV->Prop):Prop
 |mk (d:au) (o:Obj) (xs:ae (ae Int×au×ak)) (ks:ae (ae Int)) (dx:ae AV) (e:v= .ref d) (ho:s.heap.get? d=af o) (hc:o.ExactDict) (ns:d≠di) (D:s.heap.DictOfH (g7 (cE P.prog P.w)) d xs) (e1:xs.map (·.1)=ks) (e2:bJ G ρ dx (xs.map (·.2.2))) (e3:∀x∈xs,TK G x.1 x.2.1) (k:K ks dx)
theorem lH(O:gM P ct F)(R:RF F ct.aS G ρ σ s)(va:VR G ρ a v)(h:l_ a σ.mem K):aaZ P G ρ s v K:=by
 rcases y8 O R va h with⟨d,o,es,n,us,ks,dx,e,ho,hc,ns,hd,hk,hv,hn,k⟩
 exact(hk.rows (prog:=P.prog) (w:=P.w)).elim λ xs z=>⟨d,o,xs,_,_,e,ho,hc,ns,⟨o,es,n,ho,hc,hd,z.2.2.1,λ x hx=>(z.2.2.2 x hx).key R.rm.kg,z.1.symm▸hn⟩,z.1,z.2.1▸hv,z.2.2.2,k⟩
end
noncomputable def TW(o:AO):aq cS:=match o with
 | .bG _ _=>af "dict.get"
 |_=>none
def getId(a:AV)(mem:ae AO):aq cS:=match a with
 | .bG _ _=>af "dict.get"
 |a=>pr TW a mem
theorem O8{o:AO}{id:cS}(h:TW o=af id):"dict.get"=id/\∃ks vs,o= .bG ks vs:=by
 rcases o with _|_|_|_|_|⟨ks,vs⟩|_|_
 case bG=>exact⟨am h,ks,vs,rfl⟩
 all_goals exact cu h
theorem Lh{a:AV}{mem:ae AO}{id:cS}(h:getId a mem=af id):"dict.get"=id/\l_ a mem λ aa aa=>True:=by
 rcases a with _|_|_|_|_|p|_|_|_|_|_|_|_|_|_|_|_|⟨ks,vs⟩
 case own=>exact pr.u (a:= .own p) (Q:=λ a=>"dict.get"=id/\l_ a mem λ aa aa=>True) h λ p o e h=>have h:=O8 h; ⟨h.1,h.2.elim λ aa h=>h.elim λ aa h=>dI e (h▸trivial)⟩
 case bG=>exact⟨am h,trivial⟩
 all_goals exact cu h
noncomputable def wA(o:aq AV)(d:AV):AV:=match o with
 |some v=>v
 |none=>d
def wC(id:cS)(a:AV)(vs:ae AV)(σ:St)(K:AV->St->Prop):Prop:=id="dict.get"/\l_ a σ.mem λ ks us=>match vs with
 |[v]=>Da v λ k=>K (wA (wJ ks us k) .none) σ
 |[v,d]=>Da v λ k=>K (wA (wJ ks us k) d) σ
 |_=>False
section
variable{G:BM}{ρ:ae au}{n:ae Int}
theorem CO:∀{ks:ae (ae Int)} {vs:ae AV} {us:ae ak},bJ G ρ vs us->us.length=ks.length->wJ ks vs n=none->pD ks n=false
 |[],_,_=>λ aa aa aa=>rfl
 |k::r,[],us=>λ hv l aa=>hv.u0 (Q:=λ us=>us.length=(k::r).length->pD (k::r) n=false) (λ l=>bt l.symm (cy _)) l
 |k::r,w::t,us=>λ hv l h=>hv.uc (Q:=λ us=>us.length=(k::r).length->pD (k::r) n=false) (λ x xr aa hr l=>by
  cases q:sn k n with
  |true=>exact cu (h.symm.trans (vm q))
  |false=>exact(ah (aX · true (pD r n)) q).trans (CO hr (eJ l) ((sL q).symm.trans h))) l
theorem P9{ks:ae (ae Int)}{vs:ae AV}{xs:ae (ae Int×au×ak)}{d:AV}{u:ak}(e:xs.map (·.1)=ks)(hv:bJ G ρ vs (xs.map (·.2.2)))(hu:VR G ρ d u):VR G ρ (wA (wJ ks vs n) d) (((atKey xs n).map (·.2)).getD u):=by
 cases h:wJ ks vs n with
 |some v=>exact(G8 h e hv).elim λ p z=>z.1.symm▸z.2
 |none=>exact(Option.isSome_eq_false_iff.mp ((wK e).trans (CO hv (e▸(bL _).trans (bL _).symm) h))|>jd.mp).symm▸hu
end
def ZP(t:TV):aq {k:ae Int // ∀v,GV t v->∀K:ae Int->Prop,K k->Da v K}:=Nv t
def FH:ae (ae Int)->ae TV->ae Int->aq TV:=E7 sn
theorem AR{d:TV}{e:AV}(gd:GV d e){x:ae Int}:∀{ks:ae (ae Int)} {ts:ae TV} {us:ae AV},dH ts us->ks.length=ts.length->GV ((FH ks ts x).getD d) (wA (wJ ks us x) e)
 |[],[],_=>λ g aa=>g.u0 (Q:=λ us=>GV d (wA (wJ [] us x) e)) gd
 |[],_::_,_=>λ aa l=>bt l.symm (cy _)
 |_::_,[],_=>λ aa l=>bt l (cy _)
 |k::ks,t::ts,_=>λ g l=>g.uc (Q:=λ us=>GV ((FH (k::ks) (t::ts) x).getD d) (wA (wJ (k::ks) us x) e)) λ u r gu gr=>by
  cases q:sn k x with
  |true=>rw[show FH (k::ks) (t::ts) x=af t from vm q,show wJ (k::ks) (u::r) x=af u from vm q]; exact gu
  |false=>rw[show FH (k::ks) (t::ts) x=FH ks ts x from sL q,show wJ (k::ks) (u::r) x=wJ ks r x from sL q]; exact AR gd gr (eJ l)
def HN(t:TV)(s:AS):aq {c:ae (ae Int)×ae TV // ∀a σ,GV t a->GS s σ->getId a σ.mem=af "dict.get"/\∃us,dH c.2 us/\∀K:ae (ae Int)->ae AV->Prop,K c.1 us->l_ a σ.mem K}:=ob (nR t) λ p=>jN (gU s.mem p.1) λ o ho=>ob (oDct o) λ q=>af ⟨q.1,λ a σ ga gs=>
 (ly ga p.2).symm▸(gs.vs ho q.2 λ aa z=>z).elim λ us z=>⟨Db (f:=TW) z.1,us,z.2,λ K k=>dI z.1 k⟩⟩
def XZ(t:TV)(ts:ae TV)(s:AS):aq (ae (TV×AS)):=ob (HN t s) λ c=>nB (a_ c.1.1.length c.1.2.length) (oe (ob (y9 ts) λ u=>ob (ZP u.1) λ k=>af [((FH c.1.1 c.1.2 k.1).getD (.ex .none),s)]) (ob (Rm ts) λ u=>ob (ZP u.1.1) λ k=>af [((FH c.1.1 c.1.2 k.1).getD u.1.2,s)]))
theorem PD{t:TV}{ts:ae TV}{s:AS}{outs:ae (TV×AS)}{a:AV}{vs:ae AV}{σ:St}(h:XZ t ts s=af outs)(ga:GV t a)(gv:dH ts vs)(gs:GS s σ):D2 (wC "dict.get" a vs σ) GV outs:=
 ob.u h λ c aa h=>nB.u h λ hl h=>have hl:=aL hl; (c.2 a σ ga gs).2.elim λ us w=>oe.v h (λ h=>ob.u h λ u aa h=>ob.u h λ k aa h=>dH.v1 u.2 gv (Q:=λ vs=>D2 (wC "dict.get" a vs σ) GV outs) λ v gx=>D2.one h (AR (d:= .ex .none) (e:= .none) rfl w.1 hl) gs λ K z=>⟨rfl,w.2 _ (k.2 v gx _ z)⟩)
  λ h=>ob.u h λ u aa h=>ob.u h λ k aa h=>(u.2▸gv:dH [u.1.1,u.1.2] vs).u2 (Q:=λ vs=>D2 (wC "dict.get" a vs σ) GV outs) λ v d gx gd=>D2.one h (AR gd w.1 hl) gs λ K z=>⟨rfl,w.2 _ (k.2 v gx _ z)⟩
theorem GT{F:Fd}{G:BM}{ρ:ae au}{σ:St}{s:ar}{d:au}{xs:ae (ae Int×au×ak)}{ks:ae (ae Int)}{us:ae AV}(O:gM P ct F)(R:RF F ct.aS G ρ σ s)(ns:d≠di)(D:s.heap.DictOfH (g7 (cE P.prog P.w)) d xs)(e1:xs.map (·.1)=ks)(e2:bJ G ρ us (xs.map (·.2.2)))
  {Q:Prop} (k:(g7 (cE P.prog P.w)).room F.A.in1->(d==di)=false->(∀{k ka},TK G k ka->(g7 (cE P.prog P.w)).is s.heap k ka)->(∀{k:ae Int} {d:AV} {u:ak},VR G ρ d u->VR G ρ (wA (wJ ks us k) d) (((atKey xs k).map (·.2)).getD u))->Q):Q:=
 k (aT (fF (bq _ _) 1) (fj (ge O.room.2.1) (by decide))) (d_.mpr ns) (λ tk=>tk.key R.rm.kg) λ hu=>P9 e1 e2 hu
def Xl:Bm P ct where
 name:="get"
 idOf:=getId
 lY:=wC
 jj:=false
 YO:=λ F G ρ σ s a u id pl Q O R va h q=>by
  have h:=Lh h
  rcases lH O R va h.2 with⟨d,ob,xs,ks,dx,rfl,ho,hc,_⟩
  exact pJ ⟨ob,ho,hc.1⟩ PySem.F.plainAttrs_dict pA PySem.F.type_dict_get (λ a e=>vO e▸⟨ob,ho,hc.2.1⟩) (h.1▸q)
 snd:=λ F G ρ σ s Kv id a dx u vs hj O R va q6 h=>by
  obtain⟨rfl,h⟩:=h
  rcases lH O R va h with⟨d,ob,xs,ks,us,rfl,ho,hc,ns,D,e1,e2,e3,h⟩
  refine GT O R ns D e1 e2 λ room Bj key all=>?_
  rcases dx with _|⟨v,_|⟨e,_|_⟩⟩
  ·exact h.elim
  ·exact q6.u1 (Q:=λ vs=>WP P F.A (call (.builtin "dict.get") (.ref d::vs) []) (PE F ct.aS G ρ Kv) s) λ w vw=>(sR vw h).elim λ k z=>z.elim λ ka z=>z.1.symm▸X.any (call_meetsIn pA D.typeIs zy (PySem.F.args_dict_get_2 _ _) (meetsH_dict_get (g7 (cE P.prog P.w)) d ka Bj) ⟨room,k,xs,key z.2.1,D,PE.toks R (all VR.none_) z.2.2⟩)
  ·exact q6.u2 (Q:=λ vs=>WP P F.A (call (.builtin "dict.get") (.ref d::vs) []) (PE F ct.aS G ρ Kv) s) λ w y vw vy=>(sR vw h).elim λ k z=>z.elim λ ka z=>z.1.symm▸X.any (call_meetsIn pA D.typeIs zy (PySem.F.args_dict_get_3 _ _ _) (meetsH_dict_get_default (g7 (cE P.prog P.w)) d ka Bj y) ⟨room,k,xs,key z.2.1,D,PE.toks R (all vy) z.2.2⟩)
  ·exact h.elim
 idt:=λ t s=>ob (HN t s) λ c=>af ⟨"dict.get",λ a σ ga gs=>(c.2 a σ ga gs).1⟩
 lf:=λ id t ts s=>aX (id=="dict.get") (XZ t ts s) none
 lk:=λ id t ts s outs a vs σ h ga gv gs=>VT (Q:=λ id=>D2 (wC id a vs σ) GV outs) h λ h=>PD h ga gv gs
def aaa(o:SE P ct)(ap:c9)(as:SL P ct)(p:c9):SE P ct:=xBm Xl o ap as p
end
section
variable{P:cC}{ct:Ct}
noncomputable def Z9(b:aC)(k:Nat)(p:c9):SE P ct where
 bA:= .Constant (.bool b) k p
 run:=λ σ K=>K (.bool b) σ
 ch:=true
 star:=λ aa aa=>rfl
 ok:=λ aa F G ρ σ s Kv aa R h=>X.any<|wpAny_Constant_bool (PE.here R VR.Kz h)
 ab:=λ s=>af [(.ex (.bool b),s)]
 cO:=λ aa s outs h σ gs=>D2.one h rfl gs λ aa k=>k
noncomputable def adH(x:bI)(k:Nat)(p:c9):SE P ct where
 bA:= .Constant (.str x) k p
 run:=λ σ K=>K .any σ
 ch:=true
 star:=λ aa aa=>rfl
 ok:=λ aa F G ρ σ s Kv aa R h=>X.any<|wpAny_Constant_str (PE.here (R.toks _) (show VR _ _ .any (.str x _) from rfl) h)
 ab:=λ s=>af [(.ex .any,s)]
 cO:=λ aa s outs h σ gs=>D2.one h rfl gs λ aa k=>k
noncomputable def adB(x:ae bZ)(k:Nat)(p:c9):SE P ct where
 bA:= .Constant (.bytes x) k p
 run:=λ σ K=>K (.ky x) σ
 ch:=true
 star:=λ aa aa=>rfl
 ok:=λ aa F G ρ σ s Kv aa R h=>λ aa aa aa aa=>PE.toks R VR.R2 h
theorem TZ{G:BM}{ρ:ae au}:∀{t:aC},OR G ρ (aX t (.bG [] []) (.iM [] [])) {cls:= .type "dict",data:= .dict #[]}
 |true=>vK ⟨rfl,rfl,rfl⟩ ⟨#[],_,[],rfl,⟨rfl,rfl⟩,bJ.nil,gA⟩
 |false=>vK ⟨rfl,rfl,rfl⟩ ⟨#[],_,[],rfl,⟨rfl,rfl⟩,bJ.nil,gA⟩
theorem KW{m:ae AO}:∀{t:aC},GO m (aX t (.bG [] []) (.iM [] [])) (aX t (.bG [] []) (.iM [] []))/\ml (aX t (.bG [] []) (.iM [] []))=none
 |true=>⟨⟨[],rfl,rfl⟩,rfl⟩
 |false=>⟨⟨[],rfl,rfl⟩,rfl⟩
noncomputable def Wf(t:aC)(p:c9):SE P ct where
 bA:= .Dict [] [] p
 run:=λ σ K=>K (.own σ.mem.length) ⟨σ.loc,σ.mem++[aX t (.bG [] []) (.iM [] [])]⟩
 ch:=true
 star:=λ aa aa=>rfl
 ok:=λ aa F G ρ σ s Kv aa R h=>X.any<|by
  rw[eval_Dict_empty]
  exact aj (hW (cP (PE.Ff (s':={s with heap:=s.heap.push {cls:= .type "dict",data:= .dict #[]}}) R R.K0 (aN _ rfl) TZ (λ b o e=>aA _ e) ⟨rfl,rfl,rfl⟩ h)))
 ab:=λ s=>af [(.ex (.own s.mem.length),⟨s.loc,s.mem++[aX t (.bG [] []) (.iM [] [])]⟩)]
 cO:=λ aa s outs h σ gs=>D2.one (a:=AV.own σ.mem.length) (σ:=⟨σ.loc,σ.mem++[aX t (.bG [] []) (.iM [] [])]⟩) h (ah AV.own gs.mem.len.symm) ⟨gs.loc,gs.mem.app (KW (m:=σ.mem)).1 (KW (m:=σ.mem)).2⟩ λ K k=>k
def acz(o:AO)(K:ae AV->Prop):Prop:=match o with
 | .lst xs=>K xs
 | .il ns=>K (bW ns)
 |_=>False
def ng(a:AV)(mem:ae AO)(K:ae AV->Prop):Prop:=match a with
 | .own p=>pG mem p λ o=>acz o K
 | .lst xs=>K xs
 | .row ns=>K (bW ns)
 |_=>False
theorem ng.u{F:Fd}{aS:ae bI}{G:BM}{ρ:ae au}{σ:St}{s:ar}{a:AV}{v:ak}{K:ae AV->Prop}{Q:ak->Prop}(h:ng a σ.mem K)(R:RF F aS G ρ σ s)(va:VR G ρ a v)(k:∀l o vs xs,s.heap.get? l=af o->iY o vs->bJ G ρ xs vs.toList->K xs->Q (.ref l)):Q v:=by
 rcases a with _|_|_|_|_|p|_|_|_|_|_|xs|ns|_|_|_|_|_
 case own=>
  exact pG.u h λ o e h=>R.own va e (Q:=Q) λ adr ob aa h1 q=>by
   rcases o with xs|ns|_|_|_|_|_|_
   case lst=>exact aD q λ us q=>k adr ob us xs h1 q.1 q.2 h
   case il=>exact aD q λ us q=>k adr ob us _ h1 q.1 (oR q.2) h
   all_goals exact h.elim
 case lst=>exact va.lstU (Q:=Q) λ l o us hg hl hv=>k l o us xs (R.rm.kg _ _ hg) hl hv h
 case row=>exact va.Dl (Q:=Q) λ l o us hg hl hv=>k l o us _ (R.rm.kg _ _ hg) hl (oR hv) h
 all_goals exact h.elim
noncomputable def Ei:ae AV->ae AV->ae AV
 |[],ys=>ys
 |x::xs,ys=>x::Ei xs ys
theorem zH:∀xs ys:ae AV,Ei xs ys=xs++ys
 |[],_=>rfl
 |x::xs,ys=>ah (x::·) (zH xs ys)
noncomputable def w7(xs:ae AV):Nat->ae AV
 |0=>[]
 |n+1=>Ei xs (w7 xs n)
noncomputable def Qf(xs:ae AV):AO:=match intsOf xs with
 |some ns=> .il ns
 |none=> .lst xs
theorem U6{G:BM}{ρ:ae au}{xs:ae AV}{o:Obj}{vs:bD ak}(hl:iY o vs)(hv:bJ G ρ xs vs.toList):OR G ρ (Qf xs) o:=by
 unfold Qf
 cases h:intsOf xs with
 |some ns=>exact⟨vs,hl,oh h hv⟩
 |none=>exact⟨vs,hl,hv⟩
section
variable{F:Fd}{G:BM}{ρ:ae au}{σ:St}{s:ar}{Kv:AV->St->Prop}{a b:AV}{u v:ak}{xs ys:ae AV}{vs us:bD ak}{op:cH}
theorem Ho{aS:ae bI}(R:RF F aS G ρ σ s)(hv:bJ G ρ xs vs.toList)(h:Kv (.own σ.mem.length) ⟨σ.loc,σ.mem++[Qf xs]⟩):PE F aS G ρ Kv (.ref s.heap.objs.size) {s with heap:=s.heap.push {cls:= .type "list",data:= .seq vs}}:=
 PE.Ff (s':={s with heap:=s.heap.push {cls:= .type "list",data:= .seq vs}}) R R.K0 (aN _ rfl) (U6 ⟨_,rfl⟩ (bJ.up (dG.refl _) (Ext.snoc _ _) _ hv)) (λ b o e=>aA _ e) ⟨rfl,rfl,rfl⟩ h
def OS(op:cH)(a b:AV)(σ:St)(K:AV->St->Prop):Prop:=match op with
 | .Add=>ng a σ.mem λ xs=>ng b σ.mem λ ys=>cK (bB xs.length 1000&&bB ys.length 1000) (K (.own σ.mem.length) ⟨σ.loc,σ.mem++[Qf (Ei xs ys)]⟩)
 | .Mult=>ng a σ.mem λ xs=>j9 b λ n=>need (0<=n/\n < 1000/\xs.length < 1000) (K (.own σ.mem.length) ⟨σ.loc,σ.mem++[Qf (w7 xs n.toNat)]⟩)
 |_=>False
def BR(op:cH)(a b:AV)(σ:St)(K:AV->St->Prop):Prop:=match a with
 | .int i=>j9 b λ j=>binI op i j λ r=>K (.int r) σ
 |a=>OS op a b σ K
theorem foldl_rep(xs:bD ak):∀(n:Nat) (acc:bD ak),(Js (λ x1 x2=>x1++x2) acc (eR n xs)).toList=acc.toList++(eR n xs.toList).flatten
 |0,acc=>(bS _).symm
 |n+1,acc=>(foldl_rep xs n (acc++xs)).trans ((ah (·++_) mr).trans (gR ..))
theorem MT{xs:ae AV}{vs:ae ak}(h:bJ G ρ xs vs):∀n:Nat,bJ G ρ (w7 xs n) (eR n vs).flatten
 |0=>bJ.nil
 |n+1=>show bJ G ρ (Ei xs (w7 xs n)) (vs++(eR n vs).flatten) from(zH xs (w7 xs n)).symm▸h.append (MT h n)
theorem Qh{prog:aK}{w:bw}{A:bn}{l:au}{items:bD ak}{k:Nat}{x:Int}{u:kq}{Q:ak->ar->Prop}
  (hl:s.heap.get? l=af {cls:= .type "list",dict:=none,data:= .seq items k,slots:=#[]}) (hlo:0<=x) (hhi:x < 1000) (hsz:items.size < 1000)
  (h:Q (.ref s.heap.objs.size) {s with heap:=s.heap.push {cls:= .type "list",data:= .seq (Js (λ x1 x2=>x1++x2) #[] (eR (if items.isEmpty=true then 0 else x.toNat) items))}}):
  aH (aE prog w) A (kS .Mult (.ref l) (.int x u)) Q dw s:=by
 have hm:items.size * x.toNat<=2 ^ 24:=aG (Nat.mul_le_mul (eX hsz) (show x.toNat<=1000 by omega)) (by decide)
 exact wpAny_binaryOp_repeat_ref (T:="list") (U:="int") (by decide) ⟨_,hl,rfl⟩ (λ s'=>mB s' x u) noFill_list_mul F.fills_int_mul F.slot_int_rmul repeat_list F.slot_int_index.lookup
  (call_meets F.slot_int_rmul (mB s x u) F.entry_int_rmul (F.args_int_rmul_2 _ _) (int___rmul___int_list x u l items k)
   ⟨hl,rfl,⟨_,hl,rfl⟩,call_meets F.slot_list_mul ⟨_,hl,rfl⟩ F.entry_list_mul (F.args_list_mul_2 _ _)
    (AutoListH.list___mul___list_int_3 l items k x u (by simp [Builtin.List.listFitsIndex]; omega) (by omega) (by simp [Builtin.List.listTooLong,gh]; omega))
    ⟨hl,h⟩⟩)
theorem Dj:∀n:Nat,w7 [] n=[]
 |0=>rfl
 |n+1=>Dj n
theorem Zk{n:Nat}(hv:bJ G ρ xs us.toList):bJ G ρ (w7 xs n) (Js (λ x1 x2=>x1++x2) #[] (eR (if us.isEmpty=true then 0 else n) us)).toList:=by
 rw[foldl_rep]
 by_cases he:us.isEmpty=true
 ·rw[dq he]
  cases Array.isEmpty_iff.mp he
  cases cZ.mp hv.length.symm
  exact(ah (bJ G ρ · []) (Dj n)).mpr bJ.nil
 ·rw[bC he]
  exact MT hv n
theorem m9(hv:bJ G ρ xs us.toList):us.size=xs.length:=bh.symm.trans hv.length
theorem Eo(R:RF F ct.aS G ρ σ s)(va:VR G ρ a u)(vb:VR G ρ b v)(h:OS op a b σ Kv):aH (aE P.prog P.w) F.A (kS op u v) (PE F ct.aS G ρ Kv) dw s:=by
 cases op
 case Add=>
  exact ng.u (Q:=λ u=>aH (aE P.prog P.w) F.A (kS .Add u v) (PE F ct.aS G ρ Kv) dw s) h R va λ l o us xs ho lo hv h=>lo.elim λ n e=>h.u (Q:=λ v=>aH (aE P.prog P.w) F.A (kS .Add (.ref l) v) (PE F ct.aS G ρ Kv) dw s) R vb λ l2 o2 ws ys Uz lo2 hw h=>lo2.elim λ n2 e2=>h.u λ hz h=>
   PySem.P.add_list (n:=n) (n2:=n2) (ho.trans (ah af e)) (Uz.trans (ah af e2)) (Ho R (xs:=Ei xs ys) (vs:=us++ws) ((zH xs ys).symm▸mr.symm▸hv.append hw) h)
    (aG (Nat.add_le_add (m9 hv▸aQ (aF hz).1) (m9 hw▸aQ (aF hz).2)) (dZ.symm▸(by decide:1000+1000<=16777216)))
 case Mult=>
  exact ng.u (Q:=λ u=>aH (aE P.prog P.w) F.A (kS .Mult u v) (PE F ct.aS G ρ Kv) dw s) h R va λ l o us xs ho lo hv h=>lo.elim λ n e=>h.u (Q:=λ v=>aH (aE P.prog P.w) F.A (kS .Mult (.ref l) v) (PE F ct.aS G ρ Kv) dw s) vb λ i t h=>h.u λ hb h=>
   Qh (ho.trans (ah af e)) hb.1 hb.2.1 (m9 hv▸hb.2.2) (Ho R (xs:=w7 xs i.toNat) (Zk hv) h)
 all_goals exact h.elim
theorem Qs(h:BR op a b σ Kv){Q:AV->Prop}(k:∀i,(j9 b λ j=>binI op i j λ r=>Kv (.int r) σ)->Q (.int i))(k':OS op a b σ Kv->Q a):Q a:=by
 rcases a with _|_|_|i|_|_|_|_|_|_|_|_|_|_|_|_|_|_
 case int=>exact k i h
 all_goals exact k' h
theorem Ep(R:RF F ct.aS G ρ σ s)(va:VR G ρ a u)(vb:VR G ρ b v)(h:BR op a b σ Kv):aH (aE P.prog P.w) F.A (kS op u v) (PE F ct.aS G ρ Kv) dw s:=
 Qs h (Q:=λ a=>VR G ρ a u->aH (aE P.prog P.w) F.A (kS op u v) (PE F ct.aS G ρ Kv) dw s) (λ i h va=>va.iu (Q:=λ u=>aH (aE P.prog P.w) F.A (kS op u v) (PE F ct.aS G ρ Kv) dw s) λ t=>h.u (Q:=λ v=>aH (aE P.prog P.w) F.A (kS op (.int i t) v) (PE F ct.aS G ρ Kv) dw s) vb λ j t' h=>En R h) (λ h va=>Eo R va vb h) va
end
theorem CB:∀l:ae Int,intsOf (bW l)=af l
 |[]=>rfl
 |i::r=>CC rfl (CB r)
theorem Dk(c:Int):∀n:Nat,w7 [.int c] n=bW (eR n c)
 |0=>rfl
 |n+1=>ah (AV.int c::·) (Dk c n)
noncomputable def Vq(c:Int):Nat->ae (Int×Int)
 |0=>[]
 |n+1=>(c,c)::Vq c n
theorem Hx(c:Int):∀n,q9 (Vq c n) (eR n c)
 |0=>rfl
 |n+1=>q9.cons (q:=(c,c)) (dT _) (dT _) (Hx c n)
def QE(c:Int)(n:Nat):TO:=aX (bB n 8) (.il (Vq c n)) (.Af n c c)
theorem Hw(m:ae AO)(c:Int)(n:Nat):GO m (QE c n) (.il (eR n c))/\ml (QE c n)=none:=by
 unfold QE
 cases bB n 8 with
 |true=>exact⟨⟨_,rfl,Hx c n⟩,rfl⟩
 |false=>exact⟨⟨_,rfl,List.length_replicate,λ x hx=>(List.eq_of_mem_replicate hx).symm▸⟨dT _,dT _⟩⟩,rfl⟩
noncomputable def one?(l:ae TV):aq {c:Int // l=[.ex (.int c)]}:=match l with
 |[.ex (.int c)]=>af ⟨c,rfl⟩
 |_=>none
noncomputable def isMul(op:cH):aq {u:e9 // op= .Mult}:=match op with
 | .Mult=>af ⟨(),rfl⟩
 |_=>none
theorem Qg(c:Int)(n:Nat):Qf (w7 [.int c] n)= .il (eR n c):=by unfold Qf; rw[Dk,CB]
def W4(op:cH)(t u:TV)(s:AS):aq (ae (TV×AS)):=ob (isMul op) λ aa=>ob (vI t s) λ c=>ob (one? c.1.2) λ x=>ob (lr u) λ n=>nB (decide (0<=n.1/\n.1 < 1000)) (af [(.ex (.own s.mem.length),⟨s.loc,s.mem++[QE x.1 n.1.toNat]⟩)])
theorem Ox{op:cH}{t u:TV}{s:AS}{outs:ae (TV×AS)}{a b:AV}{σ:St}(h:W4 op t u s=af outs)(ga:GV t a)(gb:GV u b)(gs:GS s σ):D2 (BR op a b σ) GV outs:=
 ob.u h λ m aa h=>ob.u h λ c aa h=>ob.u h λ x aa h=>ob.u h λ n aa h=>nB.u h λ hn h=>m.2▸(ly gb n.2).symm▸gs.lst c ga (Q:=λ a=>D2 (BR .Mult a (.int n.1) σ) GV outs) λ us m1 g=>(x.2▸g:dH [.ex (.int x.1)] us).u1 (Q:=λ us=>bM σ.mem c.1.1=af (.lst us)->D2 (BR .Mult (.own c.1.1) (.int n.1) σ) GV outs) (λ v gv m1=>
  have gv:v= .int x.1:=gv
  D2.one (a:=AV.own σ.mem.length) (σ:=⟨σ.loc,σ.mem++[.il (eR n.1.toNat x.1)]⟩) h (ah AV.own gs.mem.len.symm) ⟨gs.loc,gs.mem.app (Hw σ.mem x.1 n.1.toNat).1 (Hw σ.mem x.1 n.1.toNat).2⟩ λ K k=>dI (m1.trans (ah (λ v=>af (AO.lst [v])) gv))
   (TP ⟨(bg hn).1,(bg hn).2,(by decide:1 < 1000)⟩ ((Qg x.1 n.1.toNat).symm▸k))) m1
def Md(a:AV)(m:ae AO):aq {xs:ae AV // ∀K:ae AV->Prop,K xs->ng a m K}:=match a with
 | .own p=>jN (bM m p) λ o ho=>match o,ho with
  | .lst xs,ho=>af ⟨xs,λ K z=>dI ho z⟩
  | .il ns,ho=>af ⟨bW ns,λ K z=>dI ho z⟩
  |_,_=>none
 | .row ns=>af ⟨bW ns,λ K z=>z⟩
 | .lst xs=>af ⟨xs,λ K z=>z⟩
 |_=>none
noncomputable def aci(a:AV):aq {i:Int // a= .int i}:=match a with
 | .int i=>af ⟨i,rfl⟩
 |_=>none
def EM(op:cH)(a b:AV)(σ:St):aq {r:AV×St // tA (OS op a b σ) r}:=match op with
 | .Add=>ob (Md a σ.mem) λ xs=>ob (Md b σ.mem) λ ys=>bE (bB xs.1.length 1000&&bB ys.1.length 1000) λ h=>af ⟨(.own σ.mem.length,⟨σ.loc,σ.mem++[Qf (Ei xs.1 ys.1)]⟩),λ K z=>xs.2 _ (ys.2 _ (cK.i h z))⟩
 | .Mult=>ob (Md a σ.mem) λ xs=>ob (aci b) λ n=>bE (decide (0<=n.1/\n.1 < 1000/\xs.1.length < 1000)) λ h=>af ⟨(.own σ.mem.length,⟨σ.loc,σ.mem++[Qf (w7 xs.1 n.1.toNat)]⟩),λ K z=>xs.2 _ (n.2.symm▸TP (bg h) z)⟩
 |_=>none
def XH(op:cH)(a b:AV)(σ:St):aq {r:AV×St // tA (BR op a b σ) r}:=match a with
 | .own p=>EM op (.own p) b σ
 | .row p=>EM op (.row p) b σ
 | .lst p=>EM op (.lst p) b σ
 |_=>none
def RN(op:cH)(t u:TV)(s:AS):aq (ae (TV×AS)):=oe (J6 op t u s) (oe (W4 op t u s) (ex2 (XH op) t u s))
theorem OT{op:cH}{t u:TV}{s:AS}{outs:ae (TV×AS)}{a b:AV}{σ:St}(h:RN op t u s=af outs)(ga:GV t a)(gb:GV u b)(gs:GS s σ):D2 (BR op a b σ) GV outs:=by
 rcases sO h with h|h
 ·rcases sO h with h|h
  ·obtain⟨i,j,rfl,rfl,z⟩:=BF h ga gb gs; exact z
  rcases sO h with h|h
  ·obtain⟨i,j,rfl,rfl,z⟩:=BG h ga gb gs; exact z
  ·have z:=BE h ga gb gs
   obtain⟨_,_,h⟩:=Mv h
   obtain⟨p,_,h⟩:=Mv h
   obtain⟨q,_,h⟩:=Mv h
   obtain⟨i,rfl⟩:=p.2 _ ga
   obtain⟨j,rfl⟩:=q.2 _ gb
   exact z
 ·exact oe.v h (λ h=>Ox h ga gb gs) λ h=>T7 _ _ _ _ _ _ _ h ga gb gs
def NR(l:SE P ct)(op:cH)(r:SE P ct)(p:c9):SE P ct where
 bA:= .BinOp l.bA op r.bA p
 run:=λ σ K=>l.run σ λ a aI=>r.run aI λ b aV=>BR op a b aV K
 ch:=l.ch&&r.ch
 star:=λ aa aa=>rfl
 ok:=λ c F G ρ σ s Kv O R h=>X.BinOp (SE.then l r (aF c).1 (aF c).2 O R h λ G' ρ' a b u v b7 s' g x R' va vb k=>CM g x (Ep R' va vb k))
 ab:=RS l.ab r.ab (RN op)
 cO:=λ fo=>rQ fo λ t u s outs a b σ h ga gb gs=>OT h ga gb gs
end
mutual
noncomputable def dep:AV->Nat
 | .tup xs=>zV xs+1
 | .lst xs=>zV xs+1
 | .row _=>1
 | .int _=>0
 |_=>0
noncomputable def zV:ae AV->Nat
 |[]=>0
 |x::r=>max (dep x) (zV r)
end
mutual
noncomputable def plainT:AV->aC
 | .tup xs=>o8 xs
 | .lst xs=>o8 xs
 | .row _=>true
 | .int _=>true
 |_=>false
noncomputable def o8:ae AV->aC
 |[]=>true
 |x::r=>plainT x&&o8 r
end
section
open SeqAt
variable{G:BM}{ρ:ae au}{s:ar}{A:bn}{a b:au}{vs ws:bD ak}
theorem pC.isTup{h:Heap}{a:au}{o:Obj}{vs:bD ak}(ho:h.get? a=af o)(t:pC o vs):h.IsTuple a vs:=⟨o,ho,t.1,t.2⟩
theorem all_true{n:Nat}{e:Nat->aC}(h:∀j,j < n->e j=true):(eA n).all e=true:=aY.mpr λ j hj=>h j (q7.mp hj)
noncomputable abbrev oK(A:bn)(s:ar)(us vs:ae ak):Prop:=∀(j:Nat) (u v:ak),us[j]?=af u->vs[j]?=af v->EqAt A s u v true
theorem oK.cons{u v:ak}{us vs:ae ak}(h:EqAt A s u v true)(k:oK A s us vs):oK A s (u::us) (v::vs):=λ j x y=>match j with
 |0=>λ e e'=>am e▸am e'▸h
 |j+1=>k j x y
theorem oK.arr(k:oK A s vs.toList ws.toList)(j:Nat)(h1:j < vs.size)(h2:j < ws.size):EqAt A s vs[j] ws[j] ((λ aa=>true) j):=k j _ _ (bP.trans (e6 h1)) (bP.trans (e6 h2))
theorem Mh(h1:s.heap.IsList a vs)(h2:s.heap.IsList b ws)(e:vs.size=ws.size)(hA:A.units < qN)(k:oK A.in1 s vs.toList ws.toList):RcAt A s (.ref a) (.ref b) true:=all_true (n:=vs.size) (e:=λ aa=>true) (λ aa aa=>rfl)▸RcAt.lists (e:=λ aa=>true) h1 h2 e hA k.arr
theorem Mf(h1:s.heap.IsList a vs)(h2:s.heap.IsList b ws)(e:vs.size=ws.size)(hA:A.units < qN)(k:oK A.in1 s vs.toList ws.toList):EqAt A s (.ref a) (.ref b) true:=
 (d5 (a=b)).elim (λ h=>h▸EqAt.same _) λ h=>EqAt.of_refs h (Mh h1 h2 e hA k)
theorem V5(h1:s.heap.IsTuple a vs)(h2:s.heap.IsTuple b ws)(e:vs.size=ws.size)(hA:A.units < qN)(k:oK A.in1 s vs.toList ws.toList):EqAt A s (.ref a) (.ref b) true:=
 (d5 (a=b)).elim (λ h=>h▸EqAt.same _) λ h=>EqAt.of_refs h ((bN.mpr ⟨all_true λ aa aa=>rfl,a4.mpr e⟩:((eA (min vs.size ws.size)).all (λ aa=>true)&&vs.size==ws.size)=true)▸RcAt.tuples (e:=λ aa=>true) h1 h2 hA k.arr)
theorem LI{i:Int}{t t':kq}:EqAt A s (.int i t) (.int i t') true:=(qP i:(i==i)=true)▸EqAt.int_int i t i t'
theorem GX:∀{ns:ae Int} {us vs:ae ak},cx ns us->cx ns vs->oK A s us vs
 |[],_,_=>λ h aa=>h.u0 (Q:=λ us=>oK A s us _) λ aa aa aa e=>cu e
 |n::r,us,vs=>λ h k=>h.uc (Q:=λ us=>oK A s us vs) λ t us h=>k.uc (Q:=λ vs=>oK A s (.int n t::us) vs) λ t' vs k=>oK.cons LI (GX h k)
theorem NF{n d:Nat}(h:n+(d+1) < qN):n+1+d < qN:=aT (aU (cV n 1 d)) h
theorem NG{n d:Nat}(h:n+d < qN):n < qN:=aT (bq _ _) h
theorem HK{xs:ae AV}(h:bJ G ρ xs vs.toList)(k:bJ G ρ xs ws.toList):vs.size=ws.size:=bh.symm.trans ((h.length.trans k.length.symm).trans bh)
mutual
theorem Rh(kg:∀a o,G a=af o->s.heap.get? a=af o):∀(t:AV) (A:bn) {u v:ak},plainT t=true->A.units+dep t < qN->VR G ρ t u->VR G ρ t v->EqAt A s u v true
 | .int i,A,u,v=>λ aa aa hu hv=>hu.iu (Q:=λ u=>EqAt A s u v true) λ t=>hv.iu (Q:=λ v=>EqAt A s (.int i t) v true) λ t'=>LI
 | .row ns,A,u,v=>λ aa hA hu hv=>hu.Dl (Q:=λ u=>EqAt A s u v true) λ a o vs g1 l1 r1=>hv.Dl (Q:=λ v=>EqAt A s (.ref a) v true) λ b o' ws g2 l2 r2=>Mf ⟨o,kg _ _ g1,l1.is⟩ ⟨o',kg _ _ g2,l2.is⟩ (bh.symm.trans ((r1.length.trans r2.length.symm).trans bh)) (NG hA) (GX r1 r2)
 | .lst xs,A,u,v=>λ hp hA hu hv=>hu.lstU (Q:=λ u=>EqAt A s u v true) λ a o vs g1 l1 r1=>hv.lstU (Q:=λ v=>EqAt A s (.ref a) v true) λ b o' ws g2 l2 r2=>Mf ⟨o,kg _ _ g1,l1.is⟩ ⟨o',kg _ _ g2,l2.is⟩ (HK r1 r2) (NG hA) (s9 kg xs A.in1 hp (NF hA) r1 r2)
 | .tup xs,A,u,v=>λ hp hA hu hv=>hu.Jm (Q:=λ u=>EqAt A s u v true) λ a o vs g1 l1 r1=>hv.Jm (Q:=λ v=>EqAt A s (.ref a) v true) λ b o' ws g2 l2 r2=>V5 (l1.isTup (kg _ _ g1)) (l2.isTup (kg _ _ g2)) (HK r1 r2) (NG hA) (s9 kg xs A.in1 hp (NF hA) r1 r2)
 | .undef,_,_,_=>λ h=>ay h
 | .none,_,_,_=>λ h=>ay h
 | .bool _,_,_,_=>λ h=>ay h
 | .ky _,_,_,_=>λ h=>ay h
 | .own _,_,_,_=>λ h=>ay h
 | .val _,_,_,_=>λ h=>ay h
 | .fn _,_,_,_=>λ h=>ay h
 | .lF _,_,_,_=>λ h=>ay h
 | .nM _,_,_,_=>λ h=>ay h
 | .inst _ _ _,_,_,_=>λ h=>ay h
 | .any,_,_,_=>λ h=>ay h
 | .j_ _ _ _,_,_,_=>λ h=>ay h
 | .iM _ _,_,_,_=>λ h=>ay h
 | .bG _ _,_,_,_=>λ h=>ay h
theorem s9(kg:∀a o,G a=af o->s.heap.get? a=af o):∀(xs:ae AV) (A:bn) {us vs:ae ak},o8 xs=true->A.units+zV xs < qN->bJ G ρ xs us->bJ G ρ xs vs->oK A s us vs
 |[],A,us,vs=>λ aa aa h aa=>h.u0 (Q:=λ us=>oK A s us vs) λ aa aa aa e=>cu e
 |x::r,A,us,vs=>λ hp hA h k=>h.uc (Q:=λ us=>oK A s us vs) λ u us h1 h2=>k.uc (Q:=λ vs=>oK A s (u::us) vs) λ v vs k1 k2=>oK.cons (Rh kg x A (aF hp).1 (aT (hH (Nat.le_max_left _ _) _) hA) h1 k1)
  (s9 kg r A (aF hp).2 (aT (hH (Nat.le_max_right _ _) _) hA) h2 k2)
end
end
section
open SeqAt
variable{P:cC}{ct:Ct}
def Gw(ne:aC)(a b:AV)(mem:ae AO)(K:aC->Prop):Prop:=ng a mem λ xs=>ng b mem λ ys=>
 (xs=ys/\o8 xs=true/\zV xs < 30/\K (!ne))\/(xs.length≠ys.length/\K ne)
section
variable{F:Fd}{G:BM}{ρ:ae au}{σ:St}{s:ar}{a b:AV}{u v:ak}{Q:ak->ar->Prop}{K:aC->Prop}
theorem gM.un(O:gM P ct F){d:Nat}(h:d < 100):F.A.units+d < qN:=fj (Nat.add_lt_add (aT (bq _ _) O.room.2.1) h) (by decide)
theorem um{ne:aC}(O:gM P ct F)(R:RF F ct.aS G ρ σ s)(va:VR G ρ a u)(vb:VR G ρ b v)(h:Gw ne a b σ.mem K)(q:∀c,K c->Q (.bool c) s):aH (aE P.prog P.w) F.A (dz (aX ne .NotEq .Eq) u v) Q dw s:=
 ng.u (Q:=λ u=>aH (aE P.prog P.w) F.A (dz (aX ne .NotEq .Eq) u v) Q dw s) h R va λ l o us xs ho hl hv h=>h.u (Q:=λ v=>aH (aE P.prog P.w) F.A (dz (aX ne .NotEq .Eq) (.ref l) v) Q dw s) R vb λ l2 o2 ws ys Uz hl2 hw h=>by
  have hu:F.A.units < qN:=O.un (d:=0) (by decide)
  have L1:s.heap.IsList l us:=⟨o,ho,hl.is⟩
  have L2:s.heap.IsList l2 ws:=⟨o2,Uz,hl2.is⟩
  rcases h with⟨rfl,hp,hd,hk⟩|⟨hn,hk⟩
  ·have k:oK F.A.in1 s us.toList ws.toList:=s9 R.rm.kg xs F.A.in1 hp (NF (O.un (b_ (ge hd) (by decide)))) hv hw
   cases ne with
   |false=>exact Mh L1 L2 (HK hv hw) hu k _ _ _ _ (q _ hk)
   |true=>exact(ah (λ b=>RcNeAt F.A s (.ref l) (.ref l2) (!b)) (all_true (n:=us.size) (e:=λ aa=>true) λ aa aa=>rfl)).mp (RcNeAt.lists (e:=λ aa=>true) L1 L2 (HK hv hw) hu k.arr) _ _ _ _ (q _ hk)
  ·have hs:(us.size !=ws.size)=true:=rO.mpr λ e=>hn ((m9 hv).symm.trans (e.trans (m9 hw)))
   cases ne with
   |false=>exact RcAt.lists_lengths L1 L2 hs hu _ _ _ _ (q _ hk)
   |true=>exact RcNeAt.lists_lengths L1 L2 hs hu _ _ _ _ (q _ hk)
def p8(neg:aC)(a b:AV)(mem:ae AO)(K:aC->Prop):Prop:=match a with
 | .int i=>lV b mem λ ns=>K (neg ^^ Cu ns i)
 |a=>l_ b mem λ ks aa=>Da a λ k=>K (neg ^^ pD ks k)
where Cu:ae Int->Int->aC
 |[],_=>false
 |x::r,i=>aX (decide (x=i)) true (Cu r i)
noncomputable def Sq(i:Int)(v:ak):aC:=match v with
 | .int j _=>j==i
 |_=>false
theorem Cv{A:bn}{i:Int}{t:kq}:∀{ns:ae Int} {vs:ae ak},cx ns vs->vs.any (Sq i)=p8.Cu ns i/\∀y∈vs,EqAt A s y (.int i t) (Sq i y)
 |[],_=>λ h=>h.u0 (Q:=λ vs=>vs.any (Sq i)=false/\∀y∈vs,EqAt A s y (.int i t) (Sq i y)) ⟨rfl,λ y hy=>bt hy bK⟩
 |x::r,_=>λ h=>h.uc (Q:=λ vs=>vs.any (Sq i)=p8.Cu (x::r) i/\∀y∈vs,EqAt A s y (.int i t) (Sq i y)) λ t' vs h=>have z:=Cv (A:=A) (t:=t) h
  ⟨by
   show(x==i||vs.any (Sq i))=aX (decide (x=i)) true (p8.Cu r i)
   rw[z.1]
   by_cases q:x=i
   ·rw[cz q,a4.mpr q]; rfl
   ·rw[dj q,d_.mpr q]; rfl,aJ.mpr ⟨EqAt.int_int x t' i t,z.2⟩⟩
theorem B4{neg:aC}(O:gM P ct F)(R:RF F ct.aS G ρ σ s)(va:VR G ρ a u)(vb:VR G ρ b v)(h:l_ b σ.mem λ ks aa=>Da a λ k=>K (neg ^^ pD ks k))
  (q:∀c t,K c->Q (.bool c) {s with toks:=t}):aH (aE P.prog P.w) F.A (dz (aX neg .NotIn .In) u v) Q dw s:=by
 rcases lH O R vb h with⟨d,ob,xs,ks,dx,rfl,ho,hc,ns,D,e1,e2,e3,h⟩
 refine GT O R ns D e1 e2 λ room Bj key aa=>(sR va h).elim λ k z=>z.elim λ ka z=>z.1.symm▸?_
 have hh:=wK (n:=k) e1
 cases neg with
 |false=>exact wpAny_in_heap room (key z.2.1) Bj D (q _ _ (hh.symm▸(ah K (Bool.false_xor _)).mp z.2.2))
 |true=>exact PyProof.Rows.wpAny_notIn_heap room (key z.2.1) Bj D (q _ _ (hh.symm▸(ah K (Bool.true_xor _)).mp z.2.2))
theorem O2{neg:aC}(h:p8 neg a b σ.mem K){Q:AV->Prop}(k:∀i,(lV b σ.mem λ ns=>K (neg ^^ p8.Cu ns i))->Q (.int i))(k':(l_ b σ.mem λ ks aa=>Da a λ k=>K (neg ^^ pD ks k))->Q a):Q a:=by
 rcases a with _|_|_|i|_|_|_|_|_|_|_|_|_|_|_|_|_|_
 case int=>exact k i h
 all_goals exact k' h
theorem uk{neg:aC}(O:gM P ct F)(R:RF F ct.aS G ρ σ s)(va:VR G ρ a u)(vb:VR G ρ b v)(h:p8 neg a b σ.mem K)
  (q:∀c t,K c->Q (.bool c) {s with toks:=t}):aH (aE P.prog P.w) F.A (dz (aX neg .NotIn .In) u v) Q dw s:=
 O2 h (Q:=λ a=>VR G ρ a u->aH (aE P.prog P.w) F.A (dz (aX neg .NotIn .In) u v) Q dw s) (λ i h va=>va.iu (Q:=λ u=>aH (aE P.prog P.w) F.A (dz (aX neg .NotIn .In) u v) Q dw s) λ t=>h.u (Q:=λ v=>aH (aE P.prog P.w) F.A (dz (aX neg .NotIn .In) (.int i t) v) Q dw s) R vb λ l o us ns ho hl hi h=>by
  have z:=Cv (A:=F.A.in1) (s:=s) (i:=i) (t:=t) hi
  have L:s.heap.IsList l us:=⟨o,ho,hl.is⟩
  have ha:us.any (Sq i)=p8.Cu ns i:=uJ.symm.trans z.1
  cases neg with
  |false=>exact in_listAt _ L (λ y hy=>z.2 y (gK.mpr hy)) (q _ s.toks (ha.symm▸(ah K (Bool.false_xor _)).mp h))
  |true=>exact notIn_listAt _ L (λ y hy=>z.2 y (gK.mpr hy)) (q _ s.toks (ha.symm▸(ah K (Bool.true_xor _)).mp h))) (λ h va=>B4 O R va vb h q) va
def R7(a b:AV)(mem:ae AO)(K:aC->Prop):Prop:=lI a λ p=>pG mem p λ o=>C9 o λ bs=>IY b λ cs=>K (bs !=cs)
theorem BX(O:gM P ct F)(R:RF F ct.aS G ρ σ s)(va:VR G ρ a u)(vb:VR G ρ b v)(h:R7 a b σ.mem K)(q:∀c,K c->Q (.bool c) s):aH (aE P.prog P.w) F.A (dz .NotEq u v) Q dw s:=
 lI.u (Q:=λ a=>VR G ρ a u->aH (aE P.prog P.w) F.A (dz .NotEq u v) Q dw s) h (λ p h va=>h.u λ o e h=>R.own va e (Q:=λ u=>aH (aE P.prog P.w) F.A (dz .NotEq u v) Q dw s) λ adr ob aa h1 w=>C9.u (Q:=λ o=>OR G ρ o ob->aH (aE P.prog P.w) F.A (dz .NotEq (.ref adr) v) Q dw s) h (λ bs h w=>
  IY.u (Q:=λ b=>VR G ρ b v->aH (aE P.prog P.w) F.A (dz .NotEq (.ref adr) v) Q dw s) h (λ cs h vb=>vb.OX (Q:=λ v=>aH (aE P.prog P.w) F.A (dz .NotEq (.ref adr) v) Q dw s) λ t=>Xd ((show ob=nK bs from w)▸h1) (O.un (d:=0) (by decide)) (q _ h)) vb) w) va
set_option genCtorIdx true
inductive CK where
 |sn|N8|Yj|YR|neB
noncomputable def CK.op:CK->j7
 | .sn=> .Eq | .N8=> .NotEq | .Yj=> .In | .YR=> .NotIn | .neB=> .NotEq
def ra(k:CK)(a b:AV)(mem:ae AO)(K:aC->Prop):Prop:=match k with
 | .sn=>Gw false a b mem K
 | .N8=>Gw true a b mem K
 | .Yj=>p8 false a b mem K
 | .YR=>p8 true a b mem K
 | .neB=>R7 a b mem K
theorem ul{k:CK}(O:gM P ct F)(R:RF F ct.aS G ρ σ s)(va:VR G ρ a u)(vb:VR G ρ b v)(h:ra k a b σ.mem K)(q:∀c t,K c->Q (.bool c) {s with toks:=t}):aH (aE P.prog P.w) F.A (dz k.op u v) Q dw s:=by
 cases k with
 |sn=>exact um O R va vb h λ c h=>q c s.toks h
 |N8=>exact um O R va vb h λ c h=>q c s.toks h
 |Yj=>exact uk O R va vb h q
 |YR=>exact uk O R va vb h q
 |neB=>exact BX O R va vb h λ c h=>q c s.toks h
end
abbrev WG(k:CK)(a b:AV)(m:ae AO)(c:aC):Prop:=∀K:aC->Prop,K c->ra k a b m K
def XM(ne:aC)(a b:AV)(m:ae AO):aq {c:aC // ∀K:aC->Prop,K c->Gw ne a b m K}:=ob (Md a m) λ xs=>ob (Md b m) λ ys=>bE (!a_ xs.1.length ys.1.length) λ h=>af ⟨ne,λ K z=>xs.2 _ (ys.2 _ (.inr ⟨pM (nb h),z⟩))⟩
def XK(neg:aC)(a b:AV)(m:ae AO):aq {c:aC // ∀K:aC->Prop,K c->p8 neg a b m K}:=match a with
 | .int i=>ob (LL b m) λ ns=>af ⟨neg ^^ p8.Cu ns.1 i,λ K z=>ns.2 _ z⟩
 |_=>none
def XI(k:CK)(a b:AV)(m:ae AO):aq {c:aC // WG k a b m c}:=match k with
 | .Yj=>XK false a b m
 | .YR=>XK true a b m
 | .sn=>XM false a b m
 | .N8=>XM true a b m
 |_=>none
def RP(k:CK)(t u:TV)(s:AS):aq (ae (aC×AS)):=ob (toAV t) λ a=>ob (toAV u) λ b=>ob (toSt s) λ σ=>ob (XI k a.1 b.1 σ.1.mem) λ c=>af [(c.1,s)]
theorem J7{k:CK}{t u:TV}{s:AS}{outs:ae (aC×AS)}{a b:AV}{σ:St}(h:RP k t u s=af outs)(ga:GV t a)(gb:GV u b)(gs:GS s σ):D2 (λ K=>ra k a b σ.mem λ c=>K c σ) Eq outs:=
 ob.u h λ a' aa h=>ob.u h λ b' aa h=>ob.u h λ b7 aa h=>ob.u h λ c aa h=>D2.one h rfl gs λ K z=>(a'.2 _ ga).symm▸(b'.2 _ gb).symm▸(ah St.mem (b7.2 _ gs)).symm▸c.2 _ z
def S1(l:SE P ct)(k:CK)(r:SE P ct)(p:c9):ST P ct where
 bA:= .Compare l.bA [k.op] [r.bA] p
 run:=λ σ K=>l.run σ λ a aI=>r.run aI λ b aV=>ra k a b aV.mem λ c=>K c aV
 ch:=vt 3 r.bA&&(l.ch&&r.ch)
 ok:=λ c F G ρ σ s Kv O R h=>have d:=(xi (aF c).1).2; have c:=(aF c).2; X.isTrue_Compare1 (d _) (SE.then l r (aF c).1 (aF c).2 O R h λ G' ρ' a b u v b7 s' g x R' va vb kk=>
  X.any (ul O R' va vb kk λ c t hk=>X.any (pK ⟨G',ρ',b7,g,x,R'.toks t,hk⟩)))
 ab:=RS l.ab r.ab (RP k)
 cO:=λ fo=>rQ fo λ t u s outs a b σ h ga gb gs=>J7 h ga gb gs
noncomputable def Z_(l:SE P ct)(k:CK)(r:SE P ct)(p:c9):SE P ct where
 bA:= .Compare l.bA [k.op] [r.bA] p
 run:=λ σ K=>l.run σ λ a aI=>r.run aI λ b aV=>ra k a b aV.mem λ c=>K (.bool c) aV
 ch:=vt 3 r.bA&&(l.ch&&r.ch)
 star:=λ aa aa=>rfl
 ok:=λ c F G ρ σ s Kv O R h=>have d:=(xi (aF c).1).2; have c:=(aF c).2; X.Bz (d _) (SE.then l r (aF c).1 (aF c).2 O R h λ G' ρ' a b u v b7 s' g x R' va vb kk=>
  X.any (ul O R' va vb kk λ c t hk=>PE.up g x (PE.here (R'.toks t) VR.Kz hk)))
noncomputable def tOr(l r:ST P ct)(p:c9):ST P ct where
 bA:= .BoolOp .Or [l.bA,r.bA] p
 run:=λ σ K=>l.run σ λ c aI=>aX c (K true aI) (r.run aI K)
 ch:=l.ch&&r.ch
 ok:=λ c F G ρ σ s Kv O R h=>by
  show WP P F.A (do match Jv,← kU l.bA F.env (eval l.bA F.env) with | .And,false=>pure false | .Or,true=>pure true|_,_=>(do match Jv,← kU r.bA F.env (eval r.bA F.env) with | .And,false=>pure false | .Or,true=>pure true|_,_=>pure (Jv== .And))) _ s
  refine X.cM (X.mono (l.ok (aF c).1 F G ρ σ s _ O R h) λ b s₁ z=>z.u λ dW c8 aI fK fh dS bH=>?_)
  cases b with
  |true=>exact X.ret ⟨dW,c8,aI,fK,fh,dS,bH⟩
  |false=>
   refine X.cM (X.mono (r.ok (aF c).2 F dW c8 aI s₁ _ O dS bH) λ b bp z=>?_)
   cases b<;>exact X.ret (PB.up fK fh z)
 ab:=λ s=>bO (l.ab s) λ c s=>aX c (af [(true,s)]) (r.ab s)
 cO:=λ fo s outs h σ gs=>(l.cO fo).bind (C:=λ c aI K=>aX c (K true aI) (r.run aI K)) h gs λ c s l h c' σ ga gs=>by
  cases ga
  cases c
  ·exact r.cO fo s l h σ gs
  ·exact D2.one (a:=true) h rfl gs λ K k=>k
noncomputable def adc(l r:ST P ct)(p:c9):ST P ct where
 bA:= .BoolOp .And [l.bA,r.bA] p
 run:=λ σ K=>l.run σ λ c aI=>aX c (r.run aI K) (K false aI)
 ch:=l.ch&&r.ch
 ok:=λ c F G ρ σ s Kv O R h=>by
  show WP P F.A (do match FY,← kU l.bA F.env (eval l.bA F.env) with | .And,false=>pure false | .Or,true=>pure true|_,_=>(do match FY,← kU r.bA F.env (eval r.bA F.env) with | .And,false=>pure false | .Or,true=>pure true|_,_=>pure (FY== .And))) _ s
  refine X.cM (X.mono (l.ok (aF c).1 F G ρ σ s _ O R h) λ b s₁ z=>z.u λ dW c8 aI fK fh dS bH=>?_)
  cases b with
  |false=>exact X.ret ⟨dW,c8,aI,fK,fh,dS,bH⟩
  |true=>
   refine X.cM (X.mono (r.ok (aF c).2 F dW c8 aI s₁ _ O dS bH) λ b bp z=>?_)
   cases b<;>exact X.ret (PB.up fK fh z)
 ab:=λ s=>bO (l.ab s) λ c s=>aX c (r.ab s) (af [(false,s)])
 cO:=λ fo s outs h σ gs=>(l.cO fo).bind (C:=λ c aI K=>aX c (r.run aI K) (K false aI)) h gs λ c s l h c' σ ga gs=>by
  cases ga
  cases c
  ·exact D2.one (a:=false) h rfl gs λ K k=>k
  ·exact r.cO fo s l h σ gs
def gtN(o:AO)(i:AV)(K:AV->Prop):Prop:=match o with
 | .lst xs=>j9 i λ n=>need (n < 0/\-1000 < n/\-n<=xs.length) (K (fC xs (n+xs.length).toNat))
 | .ba bs=>j9 i λ n=>need (n= -1/\0 < bs.length) (K (.int (bs.getLastD 0).toNat))
 |_=>False
def Um(a i:AV)(mem:ae AO)(K:AV->Prop):Prop:=lI a λ p=>pG mem p λ o=>gtN o i K
theorem U9{n:Int}{l:Nat}(h:n < 0/\-1000 < n/\-n<=l):(n+l).toNat < l:=(mW (by omega)).mpr (by omega)
theorem II{F:Fd}{G:BM}{ρ:ae au}{σ:St}{s:ar}{Kv:AV->St->Prop}{a i:AV}{u v:ak}(O:gM P ct F)(R:RF F ct.aS G ρ σ s)(va:VR G ρ a u)(vi:VR G ρ i v)(h:Um a i σ.mem λ x=>Kv x σ):lC P.prog P.w F.A u v (PE F ct.aS G ρ Kv) s:=
 lI.u (Q:=λ a=>VR G ρ a u->lC P.prog P.w F.A u v (PE F ct.aS G ρ Kv) s) h (λ p h va=>h.u λ o e h=>R.own va e (Q:=λ u=>lC P.prog P.w F.A u v (PE F ct.aS G ρ Kv) s) λ adr ob aa h1 q=>by
  rcases o with xs|_|_|_|_|_|bs|_
  case lst=>
   exact aD q λ vs q=>j9.u (Q:=λ v=>lC P.prog P.w F.A (.ref adr) v (PE F ct.aS G ρ Kv) s) h vi λ n t h=>h.u λ hb h=>(q.2.get (wL xs (n+xs.length).toNat (U9 hb))).elim λ x hx=>
    have e1:(vs.size:Int)=xs.length:=ah Int.ofNat (m9 q.2)
    have L:s.heap.IsList adr vs:=⟨ob,h1,q.1.is⟩
    ⟨"list",_,L.typeIs,A8.lookup,wpAny_getItem_list_neg L hb.1 (e1.symm▸Int.neg_le_of_neg_le hb.2.2) (by have:=hb.2.1; omega) (e1▸bP.symm.trans hx.1) (PE.here R hx.2 h)⟩
  case ba=>
   have q':ob=nK bs:=q
   exact j9.u (Q:=λ v=>lC P.prog P.w F.A (.ref adr) v (PE F ct.aS G ρ Kv) s) h vi λ n t h=>h.u λ hb h=>hb.1.symm▸⟨"bytearray",_,dd (q'▸h1),eV.lookup,Gm (q'▸h1) (fS.mp hb.2) (PE.toks R VR.mF h)⟩
  all_goals exact h.elim) va
def RQ(t i:TV)(s:AS):aq (ae (TV×AS)):=ob (nR t) λ p=>ob (lr i) λ n=>jN (gU s.mem p.1) λ o ho=>ob (oLst o) λ vs=>nB (decide (n.1 < 0/\-1000 < n.1/\-n.1<=vs.1.length)) (ob (Rq vs.1 (n.1+vs.1.length).toNat) λ u=>af [(u,s)])
theorem J_{t i:TV}{s:AS}{outs:ae (TV×AS)}{a b:AV}{σ:St}(h:RQ t i s=af outs)(ga:GV t a)(gb:GV i b)(gs:GS s σ):D2 (λ K=>Um a b σ.mem λ v=>K v σ) GV outs:=
 ob.u h λ p aa h=>ob.u h λ n aa h=>jN.u h λ o ho h=>ob.u h λ vs aa h=>nB.u h λ hn h=>ob.u h λ u hu h=>(gs.vs ho vs.2 λ aa z=>z).elim λ us z=>have hl:=z.2.len; (t3 z.2 hu).elim λ v w=>
  D2.one h w.2.2 gs λ K k=>(ly ga p.2).symm▸(ly gb n.2).symm▸dI z.1 (TP (hl.symm▸bg hn) ((ah (λ m:Nat=>fC us (n.1+m).toNat) hl).trans w.2.1▸k))
def aaf(o i:SE P ct)(p:c9):SE P ct where
 bA:= .Subscript o.bA i.bA p
 run:=λ σ K=>o.run σ λ a aI=>i.run aI λ b aV=>Um a b aV.mem λ v=>K v aV
 ch:=vt 1 i.bA&&(o.ch&&i.ch)
 star:=λ aa aa=>rfl
 ok:=λ c F G ρ σ s Kv O R h=>X.Subscript (SE.then o i (aF (aF c).2).1 (aF (aF c).2).2 O R h λ G' ρ' a b u v b7 s' g x R' va vb k=>(II O R' va vb k).elim λ T z=>z.elim λ id z=>CM g x (tail_any z.1 z.2.1 z.2.2 ((HE (aF c).1).1 _ _)))
 ab:=RS o.ab i.ab RQ
 cO:=λ fo=>rQ fo λ t u s outs a b σ h ga gb gs=>J_ h ga gb gs
end
set_option genCtorIdx false
section
variable{P:cC}{ct:Ct}
theorem Dw{F:Fd}{G:BM}{ρ:ae au}(O:gM P ct F):∀(ns:ae hJ) (dx:ae AV) (us:ae ak) (σ:St) (s:ar) {K:St->Prop},jD ct ns=true->RF F ct.aS G ρ σ s->bJ G ρ dx us->qh ns dx σ K->
  aH (aE P.prog P.w) F.A (gE (ns.map λ n=>mX F.env n.2.1) us) (λ aa s'=>∃b7,RF F ct.aS G ρ b7 s'/\K b7) dw s
 |[],[],us,σ,s,K=>λ c R va h=>va.u0 (Q:=λ us=>aH (aE P.prog P.w) F.A (gE [] us) (λ aa s'=>∃b7,RF F ct.aS G ρ b7 s'/\K b7) dw s) (aw ⟨σ,R,h⟩)
 |[],_::_,_,_,_,_=>λ aa aa aa h=>h.elim
 |_::_,[],_,_,_,_=>λ aa aa aa h=>h.elim
 |n::r,v::vs,us,σ,s,K=>λ c R va h=>va.uc (Q:=λ us=>aH (aE P.prog P.w) F.A (gE ((n::r).map λ n:hJ=>mX F.env n.2.1) us) (λ aa s'=>∃b7,RF F ct.aS G ρ b7 s'/\K b7) dw s) λ u ur vu vr=>
  (aj (bU (wpAny_bindName (qI O R (aF c).1 vu λ s' R'=>Dw O r vs ur _ s' (aF c).2 R' vr h))):aH _ _ (do holding ur (mX F.env n.2.1 u); gE (r.map λ n:hJ=>mX F.env n.2.1) ur) _ _ _)
theorem uG:∀(l acc:ae hJ),jD ct l=true->jD ct acc=true->jD ct (l.reverseAux acc)=true
 |[],acc=>λ aa h=>h
 |n::r,acc=>λ h k=>uG r (n::acc) (aF h).2 (bN.mpr ⟨(aF h).1,k⟩)
theorem bJ.rev{G:BM}{ρ:ae au}:∀{as bs:ae AV} {vs us:ae ak},bJ G ρ as vs->bJ G ρ bs us->bJ G ρ (as.reverseAux bs) (vs.reverseAux us)
 |[],bs,_,us=>λ h k=>h.u0 (Q:=λ vs=>bJ G ρ bs (vs.reverseAux us)) k
 |a::as,bs,_,us=>λ h k=>h.uc (Q:=λ vs=>bJ G ρ ((a::as).reverseAux bs) (vs.reverseAux us)) λ v r h1 h2=>bJ.rev (as:=as) (vs:=r) (bs:=a::bs) (us:=v::us) h2 (bJ.cons h1 k)
theorem Hy{α:Type}(l:ae α):(l.reverseAux []).length=l.length:=List.length_reverse
noncomputable abbrev adp(vs:ae ak):Obj:={cls:= .type "tuple",data:= .seq vs.toArray}
theorem Ra{F:Fd}{G:BM}{ρ:ae au}{σ:St}{s₁:ar}{vs:ae ak}{as:ae AV}{ns:ae hJ}{K:St->Prop}{Q:my->ar->Prop}{l:au}(O:gM P ct F)(R:RF F ct.aS G ρ σ s₁)(hl:s₁.heap.IsTuple l vs.toArray)
  (c0:jD ct ns=true) (hlen:ns.length=as.length) (va:bJ G ρ as vs) (kk:qh (ns.reverseAux []) (as.reverseAux []) σ K) (hq:∀b7 s',RF F ct.aS G ρ b7 s'->K b7->Q .next s'):
  cL P.j (aE P.prog P.w) F.A (unpackItems (.ref l) (ns.map (·.2.1)).length none) (λ items bp=>cL P.j (aE P.prog P.w) F.A (gE ((ns.map (·.2.1)).reverse.map λ n=>mX F.env n) items.reverse) (λ aa=>Q .next) bp) s₁:=by
 have Ux:(ns.map (·.2.1)).length=vs.toArray.size:=(bL _).trans ((hlen.trans va.length.symm).trans cT.symm)
 rw[Ux]
 refine X.any (unpackItems_tuple O.room.2.2 hl λ h' e=>?_)
 have R3:=R.grow (s':={s₁ with heap:=h'}) (λ b o' q=>e b o' (dO (b9 q)) q) ⟨rfl,rfl,rfl⟩
 have e1:((ns.map (·.2.1)).reverse.map λ n=>mX F.env n)=(ns.reverseAux []).map λ n=>mX F.env n.2.1:=(ah (List.map λ n=>mX F.env n) List.map_reverse.symm).trans (t4)
 rw[e1,show vs.toArray.toList.reverse=vs.reverseAux [] from rfl]
 exact X.any (c7 (Dw O _ _ _ σ _ (uG ns [] c0 rfl) R3 (bJ.rev va bJ.nil) kk) (λ aa s' w=>w.elim λ Jp w=>hq _ _ w.1 w.2) λ aa aa z=>z)
theorem dH.rev:∀{ts u7:ae TV} {us ry:ae AV},dH ts us->dH u7 ry->dH (ts.reverseAux u7) (us.reverseAux ry)
 |[],u7,_,ry=>λ h g=>h.u0 (Q:=λ us=>dH u7 (us.reverseAux ry)) g
 |t::ts,u7,_,ry=>λ h g=>h.uc (Q:=λ us=>dH ((t::ts).reverseAux u7) (us.reverseAux ry)) λ u r a h=>dH.rev (ts:=ts) (us:=r) h (dH.cons a g)
noncomputable def PU:aB->aC
 | .Starred .. =>true
 |_=>false
theorem ZL{x y:bI}{p1 p2 tp:c9}{k kv:Nat}{vp:c9}{a b:aB}{env:Env}(hk:env.scope.kind= .function)(h0:env.kindOf x=af .local)(h1:env.kindOf y=af .local)(hl:(p2.line==p1.line)=true)(IM:(x==y)=false)
  (hsa:PU a=false) (Sm:PU b=false) (hf:(mU 8 a&&mU 8 b)=false) (hc:(tj 8 a&&tj 8 b)=false):i7 [.Tuple [.Name x p1, .Name y p2] k tp] (.Tuple [a,b] kv vp) env=pure (af [x,y]):=by
 unfold i7
 have hb:(env.blockKind != .function)=false:=by unfold Env.blockKind; rw[hk]; rfl
 have hn:([x,y].filterMap λ z=>af z)=[x,y]:=rfl
 have g0:(env.kindOf x==af .local&&p1.line==(ed (λ x=>x.pos.line) [D5 x p1, .Name y p2].head?).getD 0)=true:=by rw[h0]; show(true&&(p1.line==p1.line))=true; rw[qP]; rfl
 have g1:(env.kindOf y==af .local&&p2.line==(ed (λ x=>x.pos.line) [D5 x p1, .Name y p2].head?).getD 0)=true:=by rw[h1]; exact(show(true&&(p2.line==p1.line))=true from hl)
 have hfm:∀f:aB->aq bI,f (.Name x p1)=af x->f (.Name y p2)=af y->List.filterMap f [.Name x p1, .Name y p2]=[x,y]:=λ f e1 e2=>by
  rw[jT e1,jT e2]; rfl
 have hed:[x,y].eraseDups=[x,y]:=by
  have e:(y==x)=false:=by rw[d_] at IM ⊢; exact λ z=>IM z.symm
  simp [List.eraseDups_cons,e]
 have abL:∀f:aB->aC,f a=false->f b=false->[a,b].any f=false:=λ f e1 e2=>by simp [e1,e2]
 dsimp only
 rw[hfm,abL]
 ·rw[hed,hb]
  simp only[List.all_cons,List.all_nil,Bool.and_true,hf,hc]
  rfl
 ·exact hsa
 ·exact Sm
 ·dsimp only; rw[dq g0]
 ·dsimp only; rw[dq g1]
def ZK(ns:ae hJ)(es:ae aB):aC:=match ns,es with
 |[n,m],[a,b]=>m.2.2.line==n.2.2.line&&(!(n.2.1==m.2.1)&&((!PU a&&!PU b)&&(!(mU 8 a&&mU 8 b)&&!(tj 8 a&&tj 8 b))))
 |_,_=>false
theorem Q_{ns:ae hJ}{es:ae aB}{k kv:Nat}{tp vp:c9}{env:Env}(h:ZK ns es=true)(hk:env.scope.kind= .function)(hn:∀n∈ns,env.kindOf n.2.1=af .local):i7 [.Tuple (names3 ns) k tp] (.Tuple es kv vp) env=pure (af (ns.map (·.2.1))):=by
 rcases ns with _|⟨n,_|⟨m,_|⟨_,_⟩⟩⟩
 case cons.cons.nil=>
  rcases es with _|⟨a,_|⟨b,_|⟨_,_⟩⟩⟩
  case cons.cons.nil=>
   have h1:=aF h
   have h2:=aF h1.2
   have h3:=aF h2.2
   have h4:=aF h3.1
   have h5:=aF h3.2
   exact ZL hk (hn _ aR) (hn _ (aP _ aR)) h1.1 (nb h2.1) (nb h4.1) (nb h4.2) (nb h5.1) (nb h5.2)
  all_goals cases h
 all_goals cases h
def ac5(ns:ae hJ)(k:Nat)(tp:c9)(es:SL P ct)(kv:Nat)(vp p:c9):SX P ct where
 bA:= .Assign [.Tuple (names3 ns) k tp] (.Tuple es.bA kv vp) p
 run:=λ σ K=>es.run σ λ vs aI=>cK (tV vs) (qh (ns.reverseAux []) (vs.reverseAux []) aI λ aV=>K .d8 aV)
 ch:=ZK ns es.bA&&((jD ct ns&&ns.all λ n=>ct.names.lookup n.2.1==af .local)&&es.ch)
 ok:=λ c F G ρ σ s Kv O R h=>have hw:=(aF c).1; have c:=(aF c).2; have c1:=aF (aF c).1
  X.vR (names:=ns.map (·.2.1)) rfl (Q_ hw O.kind λ n hn=>(ah (·.lookup n.2.1) O.names).trans (a4.mp (aY.mp c1.2 n hn))) (X.Mn (X.mono (es.ok (aF c).2 F G ρ σ s _ _ O R h) λ vs s₁ z=>z.u λ G' ρ' as b7 g x R' va kk=>kk.u λ hsh kk=>
   ⟨va.length.symm▸tW hsh,have f:=R'.freeze (s':={s₁ with heap:=s₁.heap.push (adp vs)}) R'.K0 (aN _ rfl) (λ b o e=>aA _ e) ⟨rfl,rfl,rfl⟩
    Ra O f.1 ⟨_,aN _ rfl,rfl,_,rfl⟩ c1.1 ((Hy ns).symm.trans ((xe kk).trans (Hy as))) (bJ.up f.2 (Ext.refl _) _ va) kk λ Jp s'' R4 k4=>PF.d8 (g.trans f.2) x R4 k4⟩))
 ab:=λ s=>bO (es.ab s) λ ts s=>nB (bB ts.length 9) (ob (Gb (ns.reverseAux []) (ts.reverseAux []) s) λ s'=>af [(.d8,s')])
 cO:=λ fo s outs h σ gs=>(es.cO fo).bind h gs λ ts s l h vs σ gv gs=>nB.u h λ hl h=>ob.u h λ s' e h=>(v7 e (dH.rev gv rfl) gs).elim λ b7 w=>D2.one (a:=Fl.d8) h rfl w.1 λ K z=>cK.i ((ah (bB · 9) gv.len).trans hl) (w.2 _ z)
def Qt(v:AV)(K:ae AV->Prop):Prop:=match v with
 | .lst xs=>K xs
 |_=>False
theorem Qt.u{v:AV}{K:ae AV->Prop}{Q:AV->Prop}(h:Qt v K)(k:∀xs,K xs->Q (.lst xs)):Q v:=by
 rcases v with _|_|_|_|_|_|_|_|_|_|_|xs|_|_|_|_|_|_
 case lst=>exact k xs h
 all_goals exact h.elim
def Nj(v x y:AV)(σ:St)(K:AV->St->Prop):Prop:=Qt v λ xs=>j9 x λ i=>j9 y λ j=>cK (bB xs.length 1000) (K (.lst ((xs.drop (mz xs.length i)).take (mz xs.length j - mz xs.length i))) σ)
theorem bJ.drop{G:BM}{ρ:ae au}:∀(n:Nat) {xs:ae AV} {vs:ae ak},bJ G ρ xs vs->bJ G ρ (xs.drop n) (vs.drop n)
 |0,_,_=>id
 |n+1,[],_=>λ h=>h.u0 (Q:=λ vs=>bJ G ρ [] (vs.drop (n+1))) bJ.nil
 |n+1,a::r,_=>λ h=>h.uc (Q:=λ vs=>bJ G ρ ((a::r).drop (n+1)) (vs.drop (n+1))) λ aa aa aa h=>bJ.drop n h
theorem bJ.take{G:BM}{ρ:ae au}:∀(n:Nat) {xs:ae AV} {vs:ae ak},bJ G ρ xs vs->bJ G ρ (xs.take n) (vs.take n)
 |0,_,_=>λ aa=>bJ.nil
 |n+1,[],_=>λ h=>h.u0 (Q:=λ vs=>bJ G ρ [] (vs.take (n+1))) bJ.nil
 |n+1,a::r,_=>λ h=>h.uc (Q:=λ vs=>bJ G ρ ((a::r).take (n+1)) (vs.take (n+1))) λ aa aa h1 h=> .cons h1 (bJ.take n h)
theorem ZF{G:BM}{ρ:ae au}{xs:ae AV}{vs:bD ak}{i j:Int}(hv:bJ G ρ xs vs.toList):bJ G ρ ((xs.drop (mz xs.length i)).take (mz xs.length j - mz xs.length i)) (slicePick vs (af i) (af j) none).toList:=by
 rw[slicePick_plain,← m9 hv]
 exact bJ.take _ (bJ.drop _ hv)
theorem Q5{F:Fd}{G:BM}{ρ:ae au}{σ:St}{s:ar}{Kv:AV->St->Prop}{xs:ae AV}{l:au}{ob:Obj}{vs:bD ak}{i j:Int}{t t':kq}{o sl:aB}(R:RF F ct.aS G ρ σ s)(hG:G l=af ob)(hl:iY ob vs)(hv:bJ G ρ xs vs.toList)(hz:bB xs.length 1000=true)
  (h:Kv (.lst ((xs.drop (mz xs.length i)).take (mz xs.length j - mz xs.length i))) σ)
  (hs:subscripted sl false (.ref l) (.ref s.heap.objs.size)=DZ [.ref s.heap.objs.size, .ref l] (getItem (.ref l) (.ref s.heap.objs.size))) (hg:∀r,iy o (.ref l) r=pure ()):
  WP P F.A (kR o sl (.ref l) (.ref s.heap.objs.size)) (PE F ct.aS G ρ Kv) {s with heap:=s.heap.push {cls:= .type "slice",data:= .fields #[.int i t, .int j t', .none]}}:=
 have S:=R.grow (s':={s with heap:=s.heap.push {cls:= .type "slice",data:= .fields #[.int i t, .int j t', .none]}}) (λ b o e=>aA _ e) ⟨rfl,rfl,rfl⟩
 have e:(s.heap.push {cls:= .type "slice",data:= .fields #[.int i t, .int j t', .none]}).objs.size=s.heap.objs.size+1:=Heap.size_push _ _
 X.any (slice_listK (items:=vs) (lo:=af i) (hi:=af j) ⟨ob,R.rm.kg _ _ hG,hl.is⟩ (.int _ _) (.int _ _) (e▸PE.fzn S S.K0 (aN _ rfl) (λ b o e=>aA _ e) ⟨rfl,rfl,rfl⟩ (λ g w=>VR.YH w ⟨_,rfl⟩ (bJ.up g (Ext.refl _) _ (ZF hv))) h) hs hg
  (aG (aU (m9 hv)) (aG (aQ hz) (by decide))))
theorem Q4{F:Fd}{G:BM}{ρ:ae au}{σ:St}{s:ar}{Kv:AV->St->Prop}{v x y:AV}{u ux uy:ak}{o sl:aB}(R:RF F ct.aS G ρ σ s)(va:VR G ρ v u)(vx:VR G ρ x ux)(vy:VR G ρ y uy)(h:Nj v x y σ Kv)
  (hs:∀u b,subscripted sl false u b=DZ [b,u] (getItem u b)) (hg:∀u r,iy o u r=pure ()):
  aH (aE P.prog P.w) F.A (newFields "slice" [ux,uy, .none]) (λ b s'=>WP P F.A (kR o sl u b) (PE F ct.aS G ρ Kv) s') dw s:=by
 simp only[newFields]
 refine cP ?_ (by size_fits)
 exact Qt.u (Q:=λ v=>VR G ρ v u->WP P F.A (kR o sl u (.ref s.heap.objs.size)) (PE F ct.aS G ρ Kv) {s with heap:=s.heap.push {cls:= .type "slice",data:= .fields #[ux,uy, .none]}}) h (λ xs h va=>
  h.u (Q:=λ ux=>WP P F.A (kR o sl u (.ref s.heap.objs.size)) (PE F ct.aS G ρ Kv) {s with heap:=s.heap.push {cls:= .type "slice",data:= .fields #[ux,uy, .none]}}) vx λ i t h=>
  h.u (Q:=λ uy=>WP P F.A (kR o sl u (.ref s.heap.objs.size)) (PE F ct.aS G ρ Kv) {s with heap:=s.heap.push {cls:= .type "slice",data:= .fields #[.int i t,uy, .none]}}) vy λ j t' h=>h.u λ hz h=>
  va.lstU (Q:=λ u=>WP P F.A (kR o sl u (.ref s.heap.objs.size)) (PE F ct.aS G ρ Kv) {s with heap:=s.heap.push {cls:= .type "slice",data:= .fields #[.int i t, .int j t', .none]}}) λ l ob vs w1 w2 w3=>Q5 R w1 w2 w3 hz h (hs _ _) (hg _)) va
theorem L9{e:aB}(h:isNm e=true)(u r:ak):iy e u r=pure ():=(wQ h).elim λ x w=>w.elim λ q e=>e▸rfl
def Wk(o a b:SE P ct)(p2 p:c9):SE P ct where
 bA:= .Subscript o.bA (.Slice (af a.bA) (af b.bA) none p2) p
 run:=λ σ K=>o.run σ λ v aI=>a.run aI λ x aV=>b.run aV λ y dC=>Nj v x y dC K
 ab:=λ s=>bO (o.ab s) λ t s=>bO (a.ab s) λ x s=>bO (b.ab s) λ y s=>ob (toAV t) λ v=>ob (U2 v.1) λ l=>ob (lr x) λ i=>ob (lr y) λ j=>nB (bB l.1.length 1000) (af [(.ex (.lst ((l.1.drop (mz l.1.length i.1)).take (mz l.1.length j.1 - mz l.1.length i.1))),s)])
 cO:=λ fo s outs h σ gs=>(o.cO fo).bind (C:=λ v aI K=>a.run aI λ x aV=>b.run aV λ y dC=>Nj v x y dC K) h gs λ t s l h v σ gv gs=>(a.cO fo).bind (C:=λ x aV K=>b.run aV λ y dC=>Nj v x y dC K) h gs λ x s l h vx σ gx gs=>(b.cO fo).bind (C:=λ y dC K=>Nj v vx y dC K) h gs λ y s l h vy σ gy gs=>
  ob.u h λ w aa h=>ob.u h λ xs aa h=>ob.u h λ i aa h=>ob.u h λ j aa h=>nB.u h λ hn h=>(ly gx i.2).symm▸(ly gy j.2).symm▸((w.2 _ gv).trans xs.2).symm▸D2.one (a:=AV.lst ((xs.1.drop (mz xs.1.length i.1)).take (mz xs.1.length j.1 - mz xs.1.length i.1))) h rfl gs λ K z=>cK.i hn z
 star:=λ aa aa=>rfl
 ch:=isNm o.bA&&(o.ch&&(a.ch&&b.ch))
 ok:=λ c F G ρ σ s Kv O R h=>have c1:=aF c; have c2:=aF c1.2; have c3:=aF c2.2
  X.Subscript (X.mono (o.ok c2.1 F G ρ σ s _ O R h) λ u s₁ z=>z.u λ dW c8 v aI fK fh dS va h=>
   (X.cM (X.mono (a.ok c3.1 F dW c8 aI s₁ _ O dS h) λ ua bp z=>z.u λ jp g6 x aV jf ju gN vx h=>X.cM (X.holds (X.mono (b.ok c3.2 F jp g6 aV bp _ O gN h) λ ub fW z=>z.u λ rP k9 y dC kJ kQ lD vy h=>
    X.cM (X.holds (X.ret (X.any (c7 (Q4 (o:=o.bA) lD (va.up (jf.trans kJ) (ju.trans kQ)) (vx.up kJ kQ) vy h (λ aa aa=>rfl) (L9 c1.1)) (λ b s' z=>X.mono z λ aa aa z=>PE.up (fK.trans (jf.trans kJ)) (fh.trans (ju.trans kQ)) z) λ aa aa z=>z))))))):WP P F.A (do
   let l ← valueOrNone (evalOpt (af a.bA) F.env)
   let u ← holding [l] (valueOrNone (evalOpt (af b.bA) F.env))
   let s ← holding [l,u] (valueOrNone (evalOpt none F.env))
   newFields "slice" [l,u,s]) _ s₁))
end
noncomputable def i2{α β:Type}(g:α->aq β):ae α->aq (ae β)
 |[]=>af []
 |v::r=>ob (g v) λ w=>ob (i2 g r) λ l=>af (w::l)
theorem bX{α β:Type}{g:α->aq β}{x:α}{y:β}{r:ae α}{l:ae β}(h1:g x=af y)(h2:i2 g r=af l):i2 g (x::r)=af (y::l):=
 (ah (ob · λ w=>ob (i2 g r) λ l=>af (w::l)) h1).trans (ah (ob · λ l=>af (y::l)) h2)
theorem CV{α β:Type}{g:α->aq β}:∀{l:ae α} {r:ae β},i2 g l=af r->r.length=l.length
 |[],_=>λ h=>am h▸rfl
 |_::_,_=>λ h=>ob.u h λ aa aa h=>ob.u h λ aa e h=>am h▸ah rE (CV e)
theorem vq{α β:Type}{g:α->aq β}:∀{l:ae α} {r:ae β},i2 g l=af r->∀(i:Nat) b,r[i]?=af b->∃a,l[i]?=af a/\g a=af b
 |[],r=>λ h i b e=>cu ((am h▸e:([]:ae β)[i]?=af b))
 |v::l,r=>λ h=>ob.u h λ w e1 h=>ob.u h λ q e2 h=>am h▸λ i b=>match i with
  |0=>λ e=>⟨v,rfl,e1.trans e⟩
  |i+1=>vq e2 i b
noncomputable def YN(l:ae AV):aq (ae Int)->AV
 |some ns=> .row ns
 |none=> .lst l
def mkT(xs:ae AV):AV:=YN xs (intsOf xs)
section
variable(n:Nat)(m:ae AO)(g:ae AV->aq (ae AV))
noncomputable def Zn(C:au)(o:AO):aq AV:=match o with
 | .ns ks vs=>ob (g vs) λ l=>af (.inst C ks l)
 |_=>none
def MU(o:AO):aq AV:=match o with
 | .lst xs=>ob (g xs) λ l=>af (mkT l)
 | .il ns=>af (.row ns)
 | .inst C j=>nB (bB n j) (ob (bM m j) (Zn g C))
 | .iM ks vs=>ob (g vs) λ l=>af (.iM ks l)
 | .bG ks vs=>ob (g vs) λ l=>af (.bG ks l)
 |_=>none
def Zm(v:AV):aq AV:=match v with
 | .own i=>aX (bB n i) (ob (bM m i) (MU n m g)) (af (.own i))
 | .tup xs=>ob (g xs) λ l=>af (.tup l)
 | .lst xs=>ob (g xs) λ l=>af (.lst l)
 | .inst C ks vs=>ob (g vs) λ l=>af (.inst C ks l)
 | .iM ks vs=>ob (g vs) λ l=>af (.iM ks l)
 | .bG ks vs=>ob (g vs) λ l=>af (.bG ks l)
 |v=>af v
def resB(o:AO):aq AO:=match o with
 | .lst xs=>ob (g xs) λ l=>af (.lst l)
 | .inst C j=>nB (fu j n) (af (.inst C j))
 | .ns ks vs=>ob (g vs) λ l=>af (.ns ks l)
 | .iM ks vs=>ob (g vs) λ l=>af (.iM ks l)
 | .bG ks vs=>ob (g vs) λ l=>af (.bG ks l)
 |o=>af o
end
noncomputable def lW(n:Nat)(m:ae AO):Nat->AV->aq AV
 |0,_=>none
 |k+1,v=>Zm n m (i2 (lW n m k)) v
def yj(n:Nat)(m:ae AO)(k:Nat)(o:AO):aq AO:=resB n (i2 (lW n m k)) o
noncomputable def Rf:Nat->ae AO->ae AO
 |n+1,o::r=>o::Rf n r
 |_,_=>[]
theorem NA:∀{n:Nat} {l:ae AO} {i:Nat} {o:AO},(Rf n l)[i]?=af o->l[i]?=af o
 |_+1,_::_,0,_=>id
 |n+1,_::l,i+1,_=>λ h=>NA (n:=n) (l:=l) h
 |0,_,_,_=>λ h=>cu h
 |_+1,[],_,_=>id
theorem HO:∀{n:Nat} {l:ae AO},n<=l.length->(Rf n l).length=n
 |0,_=>λ aa=>rfl
 |_+1,[]=>λ h=>bt h (jc _)
 |n+1,_::l=>λ h=>ah rE (HO (n:=n) (k_ h))
noncomputable def fU(G:BM)(τ:ae au)(h:Heap):BM:=λ a=>(G a).or (if a∈τ then h.get? a else none)
section
variable{G:BM}{ρ τ:ae au}{m:ae AO}{h:Heap}{n k:Nat}{a:au}{o:Obj}
theorem fU.le:dG G (fU G τ h):=λ a o e=>ah (λ x=>Option.or x (if a∈τ then h.get? a else none)) e
theorem fU.of(e:fU G τ h a=af o):G a=af o\/(a∈τ/\h.get? a=af o):=(Bo.mp e).imp id λ w=>(d5 (a∈τ)).elim (λ c=>⟨c,(dq c).symm.trans w.2⟩) λ c=>cu ((bC c).symm.trans w.2)
theorem fU.new(g:G a=none)(c:a∈τ)(e:h.get? a=af o):fU G τ h a=af o:=Bo.mpr (.inr ⟨g,(dq c).trans e⟩)
theorem Gi{i:Nat}{x:au}(l:i < ρ.length)(e:(ρ++τ)[i]?=af x):ρ[i]?=af x:=(dD l).symm.trans e
theorem OF{i:Nat}{x:au}(l:ρ.length<=i)(e:(ρ++τ)[i]?=af x):x∈τ:=dB ((eP l).symm.trans e)
noncomputable abbrev Sys(ρ:ae au):Prop:=∀a∈ρ,a≠di
abbrev GOk(g:ae AV->aq (ae AV))(G:BM)(ρ τ:ae au)(h:Heap):Prop:=∀{l r:ae AV} {xs:ae ak},g l=af r->bJ G (ρ++τ) l xs->bJ (fU G τ h) ρ r xs
theorem lf{G:BM}{v t:AV}{x:ak}(h:VR G ρ v x)(e:af v=af t):VR G ρ t x:=am e▸h
theorem YL{G:BM}{l:ae AV}{vs:bD ak}(w:G a=af o)(z:iY o vs)(r:bJ G ρ l vs.toList):∀{q:aq (ae Int)},intsOf l=q->VR G ρ (YN l q) (.ref a)
 |some _=>λ e=>VR.QO w z (oh e r)
 |none=>λ aa=>VR.YH w z r
section
variable{g:ae AV->aq (ae AV)}(R:RM G (ρ++τ) m h)(sys:Sys (ρ++τ))(ih:GOk g G ρ τ h)
include R in
theorem Lb{i:Nat}{ao:AO}(l:ρ.length<=i)(ha:(ρ++τ)[i]?=af a)(e:bM m i=af ao){Q:Prop}(k:∀o,fU G τ h a=af o->OR G (ρ++τ) ao o->Q):Q:=
 (R.obj i a ao ha ((eL _ _).symm.trans e)).elim λ o w=>k o (fU.new (R.fr a (im ha)) (OF l ha) w.1) w.2
include R ih in
theorem QI{C:au}{t:AV}{x:au}:∀{ao:AO},Zn g C ao=af t->fU G τ h x=af (gC C a)->fU G τ h a=af o->OR G (ρ++τ) ao o->VR (fU G τ h) ρ t (.ref x)
 | .ns ks vs=>λ e w w2 q=>ob.u e λ l hl e=>q.elim λ es q=>q.elim λ n q=>q.elim λ us q=>lf (v:= .inst C ks l) ⟨x,a,es,n,us,rfl,w,q.1▸w2,q.2.1,ih hl q.2.2⟩ e
 | .lst _=>λ e=>cu e
 | .il _=>λ e=>cu e
 | .inst _ _=>λ e=>cu e
 | .iM _ _=>λ e=>cu e
 | .bG _ _=>λ e=>cu e
 | .ba _=>λ e=>cu e
 | .tab=>λ e=>cu e
include R sys ih in
theorem QJ{t:AV}(ha:a∈ρ++τ):∀{ao:AO},MU ρ.length m g ao=af t->fU G τ h a=af o->OR G (ρ++τ) ao o->VR (fU G τ h) ρ t (.ref a)
 | .lst xs=>λ e w q=>ob.u e λ l hl e=>q.elim λ vs q=>lf (YL w q.1 (ih hl q.2) rfl) e
 | .il ns=>λ e w q=>q.elim λ vs q=>lf (VR.QO w q.1 q.2) e
 | .inst C j=>λ e w q=>nB.u e λ l e=>ob.u e λ ao hm e=>q.elim λ d q=>Lb R (aQ l) q.1 hm λ o' w2 q2=>QI R ih e (q.2▸w) w2 q2
 | .iM ks vs=>λ e w q=>ob.u e λ l hl e=>q.2.elim λ es z=>z.elim λ n z=>z.elim λ us z=>lf (v:= .iM ks l) ⟨a,o,es,n,us,rfl,w,q.1,z.1,z.2.1,ih hl z.2.2.1,z.2.2.2,sys a ha⟩ e
 | .bG ks vs=>λ e w q=>ob.u e λ l hl e=>q.2.elim λ es z=>z.elim λ n z=>z.elim λ us z=>lf (v:= .bG ks l) ⟨a,o,es,n,us,rfl,w,q.1,z.1,z.2.1.up fU.le,ih hl z.2.2.1,z.2.2.2,sys a ha⟩ e
 | .ns _ _=>λ e=>cu e
 | .ba _=>λ e=>cu e
 | .tab=>λ e=>cu e
include R sys ih in
theorem QH{i:Nat}{t:AV}{x:ak}(e:aX (bB ρ.length i) (ob (bM m i) (MU ρ.length m g)) (af (.own i))=af t)(hx:∃a,(ρ++τ)[i]?=af a/\x= .ref a):VR (fU G τ h) ρ t x:=
 hx.elim λ a w=>w.2▸by
  cases l:bB ρ.length i with
  |true=>exact ob.u ((ah (λ b=>aX b (ob (bM m i) (MU ρ.length m g)) (af (.own i))) l).symm.trans e) λ ao hm e=>Lb R (aQ l) w.1 hm λ o w2 q=>QJ R sys ih (im w.1) e w2 q
  |false=>exact lf (VR.I5 (Gi (Nat.lt_of_not_le λ q=>ay ((c6 q).symm.trans l)) w.1)) ((ah (λ b=>aX b (ob (bM m i) (MU ρ.length m g)) (af (.own i))) l).symm.trans e)
include R sys ih in
theorem QF{t:AV}{x:ak}:∀v:AV,Zm ρ.length m g v=af t->VR G (ρ++τ) v x->VR (fU G τ h) ρ t x
 | .own i=>λ e hx=>QH R sys ih e hx
 | .tup xs=>λ e hx=>ob.u e λ l hl e=>lf (v:= .tup l) (NI fU.le (λ o vs=> .imp_right (ih hl)) hx) e
 | .lst xs=>λ e hx=>ob.u e λ l hl e=>lf (v:= .lst l) (NI fU.le (λ o vs=> .imp_right (ih hl)) hx) e
 | .inst C ks vs=>λ e hx=>ob.u e λ l hl e=>lf (v:= .inst C ks l) (AX fU.le (λ vs=>ih hl) hx) e
 | .iM ks vs=>λ e hx=>ob.u e λ l hl e=>lf (v:= .iM ks l) (S7 fU.le (λ a o es n vs=> .imp_right<| .imp_right<| .imp_right<| .imp_left (ih hl)) hx) e
 | .bG ks vs=>λ e hx=>ob.u e λ l hl e=>lf (v:= .bG ks l) (S7 fU.le (λ a o es n vs=> .imp_right<| .imp_right<| .imp (pB.up fU.le)<| .imp_left (ih hl)) hx) e
 | .undef=>λ e hx=>hx.elim
 | .none=>λ e hx=>lf (v:= .none) hx e
 | .bool b=>λ e hx=>lf (v:= .bool b) hx e
 | .int i=>λ e hx=>lf (v:= .int i) hx e
 | .ky b=>λ e hx=>lf (v:= .ky b) hx e
 | .val v=>λ e hx=>lf (v:= .val v) hx e
 | .any=>λ e hx=>lf (v:= .any) hx e
 | .fn f=>λ e hx=>lf (v:= .fn f) (Z2 fU.le hx) e
 | .lF r=>λ e hx=>lf (v:= .lF r) (VR.up fU.le (Ext.refl ρ) (.lF r) hx) e
 | .nM r=>λ e hx=>lf (v:= .nM r) (VR.up fU.le (Ext.refl ρ) (.nM r) hx) e
 | .row r=>λ e hx=>lf (v:= .row r) (VR.up fU.le (Ext.refl ρ) (.row r) hx) e
 | .j_ x y z=>λ e hx=>lf (v:= .j_ x y z) (S8 fU.le hx) e
include ih in
theorem QG{v8:AO}:∀ao:AO,resB ρ.length g ao=af v8->OR G (ρ++τ) ao o->OR (fU G τ h) ρ v8 o
 | .lst xs=>λ e q=>ob.u e λ l hl e=>am e▸(cQ (λ aa=> .imp_right (ih hl)) q:OR _ ρ (.lst l) o)
 | .inst C j=>λ e q=>nB.u e λ l e=>am e▸(cQ (λ aa=> .imp_left (Gi (aQ l))) q:OR _ ρ (.inst C j) o)
 | .ns ks vs=>λ e q=>ob.u e λ l hl e=>am e▸(cQ (λ aa=> .imp λ aa=> .imp λ aa=> .imp_right<| .imp_right (ih hl)) q:OR _ ρ (.ns ks l) o)
 | .iM ks vs=>λ e q=>ob.u e λ l hl e=>am e▸(iN (.imp λ aa=> .imp λ aa=> .imp λ aa=> .imp_right<| .imp_right<| .imp_left (ih hl)) q:OR _ ρ (.iM ks l) o)
 | .bG ks vs=>λ e q=>ob.u e λ l hl e=>am e▸(iN (.imp λ aa=> .imp λ aa=> .imp λ aa=> .imp_right<| .imp (pB.up fU.le)<| .imp_left (ih hl)) q:OR _ ρ (.bG ks l) o)
 | .il ns=>λ e q=>am e▸(q:OR _ ρ (.il ns) o)
 | .ba b=>λ e q=>am e▸(q:OR _ ρ (.ba b) o)
 | .tab=>λ e q=>am e▸(Ij.up fU.le q:OR _ ρ .tab o)
end
theorem E_{f:AV->aq AV}(ih:∀v {t x},f v=af t->VR G (ρ++τ) v x->VR (fU G τ h) ρ t x):∀{l r:ae AV} {xs:ae ak},i2 f l=af r->bJ G (ρ++τ) l xs->bJ (fU G τ h) ρ r xs
 |[],r,xs=>λ e hx=>am e▸hx
 |v::l,r,xs=>λ e hx=>ob.u e λ w e1 e=>ob.u e λ q e2 e=>am e▸hx.uc (Q:=λ xs=>bJ (fU G τ h) ρ (w::q) xs) λ u us h1 h2=> .cons (ih v e1 h1) (E_ ih e2 h2)
theorem sX(R:RM G (ρ++τ) m h)(sys:Sys (ρ++τ)):∀(k:Nat) (v:AV) {t:AV} {x:ak},lW ρ.length m k v=af t->VR G (ρ++τ) v x->VR (fU G τ h) ρ t x
 |0=>λ aa aa aa e=>cu e
 |k+1=>λ v aa aa=>QF R sys (E_ (sX R sys k)) v
theorem zI(R:(ρ++τ).Nodup)(h:a∈ρ):a∉τ:=λ k=>(gS.mp R).2.2 a h a k rfl
theorem RM.fz{m':ae AO}(R:RM G (ρ++τ) m h)(sys:Sys (ρ++τ))(e:i2 (yj ρ.length m 12) (Rf ρ.length m)=af m'):RM (fU G τ h) ρ m' h:=
 ⟨λ a o e=>(fU.of e).elim (R.kg a o) f_,((CV e).trans (HO (R.len▸bj.symm▸bq _ _))).symm,
  λ j a ao hj hm=>(vq e j ao hm).elim λ RV w=>(R.obj j a RV ((dD (jr hj)).trans hj) (NA w.1)).imp λ o=> .imp_right (QG (E_ (sX R sys 12)) RV w.2),
  (gS.mp R.nd).1,λ a ha=>none_of λ o e=>(fU.of e).elim (dh (R.fr a (dA _ ha))) λ w=>zI R.nd ha w.1⟩
end
def N1(n:Nat)(v:AV)(m:ae AO):aq (AV×ae AO):=ob (lW n m 12 v) λ t=>ob (i2 (yj n m 12) (Rf n m)) λ m'=>af (t,m')
theorem WC.fz{P:cC}{f:au}{dx:ae AV}{mem:ae AO}{K:AV->ae AO->Prop}(h:WC P f dx mem (λ v m=>∃r,N1 mem.length v m=af r/\K r.1 r.2)):WC P f dx mem K:=
 ⟨λ A G ρ s vs room i8 R hv=>X.el (h.run A G ρ s vs room i8 R hv) (oq λ v s' z=>by
  rcases z with⟨G',c8,av,m,⟨g,⟨τ,rfl⟩,dS,va,r,e,hk⟩,kp,nw,gf,gz⟩
  rw[← R.len] at e
  have sys:Sys (ρ++τ):=λ a ha q=>(P.Jl _ (P.mono _ _ g i8)).elim λ o ho=>dh (dS.fr a ha) (q▸ho)
  exact ob.u e λ t ht e=>ob.u e λ m' hm e=>⟨fU G' τ s'.heap,ρ,t,m',⟨g.trans fU.le,Ext.refl _,dS.fz sys hm,sX dS sys 12 av ht va,(am e▸hk:K (t,m').1 (t,m').2)⟩,kp,λ a ha=> .inl ha,λ a o e=>(fU.of e).elim (gf a o) λ w=>(nw a (cD _ w.1)).imp (λ c=>bt w.1 (zI dS.nd c)) id,gz⟩)⟩
section
variable{prog:aK}{w:bw}{A:bn}{s:ar}{a:au}{bs:ae bZ}
theorem El{v:Int}{t u:kq}{Q:e9->ar->Prop}(h:s.heap.get? a=af (nK bs))(hk:0 < bs.length)(v0:0<=v)(v1:v < 256)(hz:bs.length<=gh)
  (q:∀h',h'.get? a=af (nK (bs.set (bs.length - 1) (eE v.toNat)))->(∀b o,b≠a->s.heap.get? b=af o->h'.get? b=af o)->Q () {s with heap:=h'}):
  aH (aE prog w) A (eT (.ref a) (.int (-1) t) (.int v u)) Q dw s:=by
 unfold eT
 try with_reducible refine bU ?_
 first|refine aj (aw ?_)|skip
 refine aj (lN (dd h) (by decide) ?_)
 refine aj (de (name:=bT "__setitem__") (dd h) jB
  (cA jB (dd h) n_ ?_ (pi _ _ _)))
 unfold b8.«bytearray.__setitem__»
 show aH _ _ (Builtin.Bytes.subscript? (.int (-1) t)>>=_) _ _ s
 have sub:∀{Q:aq Int->ar->Prop},Q (af (-1)) s->aH (aE prog w) A.in1 (Builtin.Bytes.subscript? (.int (-1) t)) Q dw s:=λ q=>by
  unfold Builtin.Bytes.subscript?
  refine aj (cX (T:="int") (mB s (-1) t) Jz ?_)
  rw[bC (by simp)]
  refine aj (bu (a:=-1) rfl ?_)
  exact aw q
 refine aj (sub ?_)
 dsimp only
 refine aj (nL v0 v1 ?_)
 refine aj (jP h ?_)
 have e:j5 (-1) bs.length=af (bs.length - 1):=by
  have h1:(-1:Int) < 0:=by decide
  unfold j5
  simp only[dq h1]
  rw[dq (by rw[jg,cY,cY]; omega)]
  congr 1; omega
 rw[cT,e]
 dsimp only
 refine aj (ql h (cs:=bs.set (bs.length - 1) (eE v.toNat)) (by simp) (by rw[iI]; exact hz) λ h' e1 e2=>?_)
 exact aj (aw (aw ⟨_,rfl,aw (q h' e1 e2)⟩))
end
section
variable{P:cC}{ct:Ct}
inductive tD(n:Int)(len:Nat)(K:Nat->Prop):Prop
 |pos (b0:0<=n) (b1:n < len) (b2:n < 4611686018427387904) (k:K n.toNat):tD n len K
 |last (b0:n= -1) (b1:0 < len) (k:K (len - 1)):tD n len K
def Un(a i:AV)(mem:ae AO)(K:AV->Prop):Prop:=match a with
 | .own p=>pG mem p λ o=>match o with
  | .ba bs=>j9 i λ n=>tD n bs.length λ k=>K (.int (bs.getD k 0).toNat)
  |_=>False
 |_=>False
def VO(a i v:AV)(σ:St)(K:St->Prop):Prop:=match a with
 | .own p=>pG σ.mem p λ o=>match o with
  | .ba bs=>j9 i λ n=>j9 v λ m=>need (0<=m/\m < 256/\bs.length < 1000000) (tD n bs.length λ k=>K (σ.put p (.ba (bs.set k (eE m.toNat)))))
  |_=>False
 |_=>False
theorem wD{F:Fd}{G:BM}{ρ:ae au}{σ:St}{s:ar}{Kv:AV->St->Prop}{a i:AV}{u v:ak}(O:gM P ct F)(R:RF F ct.aS G ρ σ s)(va:VR G ρ a u)(vi:VR G ρ i v)(h:Un a i σ.mem λ x=>Kv x σ):
  lC P.prog P.w F.A u v (PE F ct.aS G ρ Kv) s:=by
 cases a<;>first|exact h.elim|skip
 obtain⟨o,ho,h⟩:=Hm h
 obtain⟨adr,jK,rfl⟩:=va.My
 obtain⟨ob,h1,q⟩:=R.rm.obj _ _ _ jK ho
 cases o<;>first|exact h.elim|skip
 rename_i bs
 obtain⟨n,t,e1,e2,hk⟩:=Aw vi h
 subst e1 e2
 have q':ob=nK _:=q
 subst q'
 rcases hk with⟨b0,b1,b2,k⟩|⟨b0,b1,k⟩
 ·exact⟨"bytearray",_,dd h1,eV.lookup,Kr h1 b0 (by omega) b1 (PE.toks R VR.mF k)⟩
 ·subst b0
  refine⟨"bytearray",_,dd h1,eV.lookup,Gm h1 (fS.mp b1) (PE.toks R VR.mF ?_)⟩
  have:bs.getLastD 0=bs.getD (bs.length - 1) 0:=by
   rw[nU,nT,gj]
  rw[this]; exact k
theorem Fx{F:Fd}{G:BM}{ρ:ae au}{σ:St}{s:ar}{a i v:AV}{u k' x:ak}{K:St->Prop}{Q:e9->ar->Prop}(O:gM P ct F)(R:RF F ct.aS G ρ σ s)(va:VR G ρ a u)(vi:VR G ρ i k')(vv:VR G ρ v x)(h:VO a i v σ K)
  (hq:∀b7 s',RF F ct.aS G ρ b7 s'->K b7->Q () s'):aH (aE P.prog P.w) F.A (eT u k' x) Q dw s:=by
 cases a<;>first|exact h.elim|skip
 obtain⟨o,ho,h⟩:=Hm h
 obtain⟨adr,jK,rfl⟩:=va.My
 obtain⟨ob,h1,q⟩:=R.rm.obj _ _ _ jK ho
 cases o<;>first|exact h.elim|skip
 obtain⟨n,t,rfl,rfl,h⟩:=Aw vi h
 obtain⟨m,t',rfl,rfl,h⟩:=Aw vv h
 obtain⟨⟨c0,c1,c2⟩,h⟩:=Qi h
 have q':ob=nK _:=q
 subst q'
 rcases h with⟨b0,b1,b2,k⟩|⟨b0,b1,k⟩
 ·refine Kt h1 b0 (by omega) b1 c0 c1 (by rw[dZ]; omega) λ h' e1 e2=>?_
  have R':=R.turn (v8:= .ba _) (s':={s with heap:=h'}) jK e1 rfl e2 ⟨rfl,rfl,rfl⟩
  exact hq _ _ (by rw[← oj] at R'; exact R') k
 ·subst b0
  refine El h1 b1 c0 c1 (by rw[dZ]; omega) λ h' e1 e2=>?_
  have R':=R.turn (v8:= .ba _) (s':={s with heap:=h'}) jK e1 rfl e2 ⟨rfl,rfl,rfl⟩
  exact hq _ _ (by rw[← oj] at R'; exact R') k
noncomputable def aag(o i:SE P ct)(p:c9):SE P ct where
 bA:= .Subscript o.bA i.bA p
 run:=λ σ K=>o.run σ λ a aI=>i.run aI λ b aV=>Un a b aV.mem λ v=>K v aV
 ch:=vt 1 i.bA&&(o.ch&&i.ch)
 star:=λ aa aa=>rfl
 ok:=λ c F G ρ σ s Kv O R h=>have d:=(HE (aF c).1).1; have c:=(aF c).2; X.Subscript (SE.then o i (aF c).1 (aF c).2 O R h λ G' ρ' a b u v b7 s' g x R' va vb k=>by
  obtain⟨T,id,h1,h2,h3⟩:=wD O R' va vb k
  exact CM g x (tail_any h1 h2 h3 (d _ _)))
noncomputable def SQ(o i:SE P ct)(p':c9)(op:cH)(e:SE P ct)(p:c9):SX P ct where
 bA:= .AugAssign (.Subscript o.bA i.bA p') op e.bA p
 run:=λ σ K=>o.run σ λ ov aI=>i.run aI λ iv aV=>Un ov iv aV.mem λ a=>e.run aV λ b dC=>zP op a b dC λ r qm=>VO ov iv r qm λ NY=>K .d8 NY
 ch:=vt 1 i.bA&&(e.ch&&(o.ch&&i.ch))
 ok:=λ c F G ρ σ s Kv O R h=>have d:=(HE (aF c).1).2; have c:=(aF c).2; X.qR d (SE.then o i (aF (aF c).2).1 (aF (aF c).2).2 O R h λ dW c8 ov iv u w aI s₁ fK fh dS vo vi k=>by
  obtain⟨_,_,_,_,hg⟩:=wD O dS vo vi (Kv:=λ a σ=>e.run σ λ b dC=>zP op a b dC λ r qm=>VO ov iv r qm λ NY=>Kv .d8 NY) k
  refine X.mono (X.any hg) λ v bp z=>?_
  obtain⟨jp,g6,old,aV,jf,ju,gN,adv,cW⟩:=z
  refine X.mono (e.ok (aF c).1 F jp g6 aV bp _ O gN cW) (λ u fW z=>?_)
  obtain⟨rP,k9,b,dC,kJ,kQ,lD,vb,fH⟩:=z
  refine X.mono (X.any (r3 lD (adv.up kJ kQ) vb fH)) (λ r s7 z=>?_)
  obtain⟨Th,NX,r',qm,Cr,DP,pT,vr,nN⟩:=z
  have gg:=jf.trans (kJ.trans Cr)
  have xx:=ju.trans (kQ.trans DP)
  exact X.any (Fx O pT (vo.up gg xx) (vi.up gg xx) vr nN λ Jp s'' Ba k=>PF.d8 (fK.trans gg) (fh.trans xx) Ba k))
end
noncomputable def q(a b c d:Nat):c9:=⟨a,b,c,d⟩
noncomputable def fnB(o:Obj):aC:=match o.data with
 | .func aa=>true
 |_=>false
theorem K8{o:Obj}(h:fnB o=true):o.data= .func (fdO o):=by
 obtain⟨c,d,dt,sl⟩:=o
 cases dt
 case func=>rfl
 all_goals exact ay h
noncomputable def yY:ae Int->ae ak->aC
 |[],[]=>true
 |i::r,v::t=>iVB i v&&yY r t
 |_,_=>false
noncomputable def DF(K:eI)(v:ak)(p:ae ak->aC):aC:=wZ v λ a=>o4 (K.lookup a) λ o=>tyB o.cls "tuple"&&Na o p
noncomputable def AC(K:eI):ae (ae Int)->ae ak->aC
 |[],[]=>true
 |x::r,v::t=>DF K v (yY x)&&AC K r t
 |_,_=>false
noncomputable def y1(K:eI)(a:au):aC:=o4 (K.lookup a) fnB
noncomputable def Rr(K:eI)(v:AV)(u:ak):aC:=match v with
 | .fn a=>wZ u λ b=>a_ a b&&y1 K a
 | .val c=>wZ c λ a=>wZ u λ b=>a_ a b
 | .int i=>iVB i u
 | .lF xs=>DF K u (yY xs)
 | .nM xz=>DF K u (AC K xz)
 |_=>false
theorem vk:∀{ns:ae Int} {vs:ae ak},yY ns vs=true->cx ns vs
 |[],[]=>λ aa=>rfl
 |[],_::_=>λ h=>ay h
 |_::_,[]=>λ h=>ay h
 |i::r,v::t=>λ h=>(LD (aF h).1).imp λ aa e=>⟨t,ah (·::t) e,vk (aF h).2⟩
section
variable{K:eI}{G:BM}
theorem xt{v:ak}{p:ae ak->aC}(hK:∀a o,K.lookup a=af o->G a=af o)(h:DF K v p=true):∃a o vs,v= .ref a/\G a=af o/\pC o vs/\p vs.toList=true:=
 (lA h).elim λ a h=>f9 h.2 λ o e k=>(AE (aF k).2).elim λ vs q=>⟨a,o,vs,h.1,hK _ _ e,⟨FK (aF k).1,q.imp λ aa=>eG⟩,q.elim λ aa=>f_⟩
abbrev WY(G:BM)(xz:ae (ae Int))(vs:ae ak):Prop:=∀(i:Nat) (xs:ae Int),xz[i]?=af xs->∃(b:au) (o:Obj) (us:bD ak),vs[i]?=af (du b)/\G b=af o/\pC o us/\cx xs us.toList
theorem Do(hK:∀a o,K.lookup a=af o->G a=af o):∀{xz:ae (ae Int)} {vs:ae ak},AC K xz vs=true->vs.length=xz.length/\WY G xz vs
 |[],[]=>λ aa=>⟨rfl,λ i xs e=>cu e⟩
 |[],_::_=>λ h=>ay h
 |_::_,[]=>λ h=>ay h
 |x::r,v::t=>λ h=>have z:=Do hK (aF h).2; ⟨ah (·+1) z.1,λ i xs=>match i with
  |0=>λ e=>(xt hK (aF h).1).imp λ a=> .imp λ o=> .imp λ us q=>⟨ah af q.1,q.2.1,q.2.2.1,am e▸vk q.2.2.2⟩
  |i+1=>z.2 i xs⟩
theorem Rs{ρ:ae au}{v:AV}{u:ak}(hK:∀a o,K.lookup a=af o->G a=af o)(h:Rr K v u=true):VR G ρ v u:=by
 rcases v with _|_|_|i|_|_|c|a|xs|xz|_|_|_|_|_|_|_|_
 case int=>exact LD h
 case val=>
  obtain⟨a,rfl,h⟩:=lA h
  obtain⟨b,rfl,h⟩:=lA h
  exact aL h▸vK rfl rfl
 case fn=>
  obtain⟨b,rfl,h⟩:=lA h
  exact f9 (aF h).2 λ o e k=>vK (ah du (aL (aF h).1).symm) ⟨o,_,hK _ _ e,K8 k⟩
 case lF=>exact(xt hK h).imp λ aa=> .imp λ aa=> .imp λ aa=> .imp_right<| .imp_right<| .imp_right vk
 case nM=>
  exact(xt hK h).imp λ aa=> .imp λ aa=> .imp λ vs=> .imp_right<| .imp_right<| .imp_right λ p=>have z:=Do hK p; ⟨(bh).symm.trans z.1,λ i xs e=>(z.2 i xs e).imp λ aa=> .imp λ aa=> .imp λ aa=> .imp_left (bP).symm.trans⟩
 all_goals exact ay h
end
noncomputable def X1(K:eI)(gl:ae (bI×AV)):aC:=gl.all λ x=>o4 (nsIn K dk x.1) λ r=>o4 r λ u=>Rr K x.2 u
noncomputable def yD(K:eI)(l:ae bI):aC:=l.all λ x=>o4 (nsIn K dk x) Option.isNone&&!(x==bT "__name__")
def Tu(K:eI)(l:ae (au×ae Nat)):aC:=l.all λ x=>x.2.all λ i=>fu i NM&&tz K x.1 (nm i)
noncomputable def Xa(l:ae (au×ae Nat))(C:au)(i:Nat):aC:=l.any λ x=>a_ x.1 C&&x.2.any λ j=>a_ j i
def UB(K:eI)(l:ae (au×au)):aC:=l.all λ x=>xW K x.1 x.2
noncomputable def Yi(l:ae (au×au))(C:au):aq au:=(l.find? λ x=>a_ x.1 C).map (·.2)
def U5(K:eI)(l:ae (au×Nat×au)):aC:=l.all λ x=>fu x.2.1 NM&&nI K x.1 (nm x.2.1) x.2.2
noncomputable def YJ(l:ae (au×Nat×au))(C:au)(i:Nat):aq au:=(l.find? λ x=>a_ x.1 C&&a_ x.2.1 i).map (·.2.2)
theorem OH{K:eI}{l:ae (au×ae Nat)}{C:au}{i:Nat}(k:Tu K l=true)(h:Xa l C i=true):i < NM/\tz K C (nm i)=true:=
 (List.any_eq_true.mp h).elim λ x h=>(List.any_eq_true.mp (aF h.2).2).elim λ j q=>have z:=aF (aY.mp (aY.mp k x h.1) j q.1)
  aL q.2▸aL (aF h.2).1▸⟨lR z.1,z.2⟩
theorem GR{α β:Type}{l:ae α}{p:α->aC}{f:α->β}{y:β}{Q:Prop}(h:(l.find? p).map f=af y)(k:∀x∈l,p x=true->f x=y->Q):Q:=
 (eK.mp h).elim λ x h=>k x (List.mem_of_find?_eq_some h.1) (List.find?_some h.1) h.2
theorem PO{K:eI}{l:ae (au×au)}{C fi:au}(k:UB K l=true)(h:Yi l C=af fi):xW K C fi=true:=
 GR h λ x m p e=>aL p▸e▸aY.mp k x m
theorem Qd{K:eI}{l:ae (au×Nat×au)}{C:au}{i:Nat}{g:au}(k:U5 K l=true)(h:YJ l C i=af g):i < NM/\nI K C (nm i) g=true:=
 GR h λ x m p e=>have z:=aF (aY.mp k x m); aL (aF p).1▸aL (aF p).2▸e▸⟨lR z.1,z.2⟩
structure J2 where
 gl:ae (bI×AV)
 blt:ae bI
 at_:ae (au×ae Nat)
 init:ae (au×au)
 tP:ae (au×Nat×au)
def tabsOk(K:eI)(T:J2):aC:=X1 K T.gl&&(yD K T.blt&&(Tu K T.at_&&(UB K T.init&&U5 K T.tP)))
inductive JP(K:eI)(G:BM):Prop
 |mk (B:Heap) (p:aK) (l:ae bI) (mg mb:_) (a:K.In B) (b:nZ p l mg mb B) (c:∃o,B.get? di=af o) (e:∀a o,B.get? a=af o->G a=af o)
def YM(prog:aK)(w:bw)(K:eI)(T:J2)(h:tabsOk K T=true)(X:BM->Prop)(hX:∀G G',dG G G'->X G->X G')(d:Nat)(j:aC)(cB:au->ae TV->ae TO->aq (ae (TV×ae TO))):cC:=
 have h1:=aF h
 have h2:=aF h1.2
 have h3:=aF h2.2
 have h4:=aF h3.2
 {cB:=cB,prog:=prog,w:=w,K:=K,gl:=T.gl,at_:=Xa T.at_,Φ:=λ G=>JP K G/\X G,d:=d,j:=j
  mono:=λ G G' g z=>⟨z.1.casesOn λ B p l mg mb a b c e=>⟨B,p,l,mg,mb,a,b,c,λ i o q=>g _ _ (e i o q)⟩,hX _ _ g z.2⟩
  base:=λ G z=>z.1.casesOn λ B p l mg mb a b c e=>⟨B,p,l,mg,mb,a,b,e⟩
  glob:=λ G x v ρ z hv=>z.1.casesOn λ B p l mg mb a b c e=>f9 (aY.mp h1.1 _ (mem_of_lookup hv)) λ r hr q=>f9 q λ u hu q=>⟨u,hr.trans (ah af hu),Rs (λ a' o q=>e _ _ (a _ _ q)) q⟩
  attr:=λ C x hx=>OH h3.1 hx
  Jl:=λ G z=>z.1.casesOn λ B p l mg mb a b c e=>c.imp λ o c=>e _ _ c
  blt:=T.blt
  yD:=λ x hx=>have t:=aF (aY.mp h2.1 x (D1.mp hx)); ⟨f9 t.1 λ r hr q=>hr.trans (ah af (jd.mp q)),λ e=>ay ((nb t.2).symm.trans (a4.mpr e))⟩
  init:=Yi T.init
  EW:=λ C fi hx=>PO h4.1 hx
  tP:=YJ T.tP
  Fb:=λ C x g hx=>Qd h4.2 hx}
def cqB(K:eI)(ct:Ct)(fd:dR):aC:=aX ct.cq (wZ fd.code (a_ · wi)&&(fd.qualname=="scan_conditioning"&&kH K)) true
theorem TQ{K:eI}{ct:Ct}{fd:dR}(h:cqB K ct fd=true)(e:ct.cq=true):fd.code= .ref wi/\fd.qualname="scan_conditioning"/\kH K=true:=
 have h:=aF ((ah (aX · _ true) e).symm.trans h)
 ⟨(lA h.1).elim λ a q=>q.1.trans (ah du (aL q.2)),a4.mp (aF h.2).1,(aF h.2).2⟩
def fdB(K:eI)(ct:Ct)(xs:ae bI)(fd:dR)(gb:aC:=false):aC:=(fd.scope.names==ct.names)&&((fd.scope.kind== .function)&&((fd.scope.isGenerator==gb)&&(!fd.scope.isCoroutine&&(fd.closure.isEmpty&&(a_ fd.globals dk&&(a_ fd.builtins la&&
 (codeIn K fd.code fd.qualname&&(wR ct.aS&&(xs.isPrefixOf ct.aS&&(xs.all (λ x=>ct.names.lookup x==af .local||ct.names.lookup x==af .cell)&&cqB K ct fd))))))))))
def XR(K:eI)(ct:Ct)(xs:ae bI)(f:au):aC:=y1 K f&&fdB K ct xs (fdOf K f)
theorem CF{K:eI}{f:au}(h:y1 K f=true):∃oc od Y9,K.lookup f=af (⟨oc,od, .func (fdOf K f),Y9⟩:Obj):=
 f9 h λ o e k=>⟨o.cls,o.dict,o.slots,e.trans (ah (λ d=>af (⟨o.cls,o.dict,d,o.slots⟩:Obj)) ((K8 k).trans (ah Data.func (show fdO o=fdOf K f by unfold fdOf; rw[e]))))⟩
theorem GH{P:cC}{ct:Ct}{xs:ae bI}{dv:ae ak}{body:ae f0}{fd:dR}{gb:aC}(h:fdB P.K ct xs fd gb=true)(hb:fd.body= .stmts body)
  (bind:∀(s:ar) (vals:ae ak),P.K.In s.heap->vals.length+dv.length=xs.length->mS s fd ⟨vals,[]⟩ (xs.zip (vals++dv))):JR P ct xs dv body fd gb:=
 have h1:=aF h
 have h2:=aF h1.2
 have h3:=aF h2.2
 have h4:=aF h3.2
 have h5:=aF h4.2
 have h6:=aF h5.2
 have h7:=aF h6.2
 have h8:=aF h7.2
 have h9:=aF h8.2
 have h10:=aF h9.2
 have h11:=aF h10.2
 {body:=hb,scope:=a4.mp h1.1,kind:=a4.mp h2.1,gen:=a4.mp h3.1,co:=nb h4.1,TL:=u8.mp h5.1,glob:=aL h6.1,blt:=aL h7.1,code:=h8.1,cq:=TQ h11.2,bind:=bind,names:=qA h9.1
  pre:=(List.isPrefixOf_iff_prefix.mp h10.1).imp λ aa=>Eq.symm,kinds:=λ x hx=>(g8.mp (aY.mp h11.1 x hx)).imp a4.mp a4.mp}
theorem z8{P:cC}{ct:Ct}{f:au}{xs:ae bI}{dv:ae ak}{body:ae f0}(h:XR P.K ct xs f=true)(hb:(fdOf P.K f).body= .stmts body)
  (bind:∀(s:ar) (vals:ae ak),P.K.In s.heap->vals.length+dv.length=xs.length->mS s (fdOf P.K f) ⟨vals,[]⟩ (xs.zip (vals++dv))):FnAt P ct f xs dv body:=⟨CF (aF h).1,GH (aF h).2 hb bind⟩
def Xc(a b:AV):aq {u:e9 // a=b}:=match a,b with
 | .fn x, .fn y=>dE (jn x y) λ h=>af ⟨(),ah AV.fn h⟩
 | .val (.ref x), .val (.ref y)=>dE (jn x y) λ h=>af ⟨(),ah (λ z=>AV.val (.ref z)) h⟩
 | .int x, .int y=>dE (nV x y) λ h=>af ⟨(),ah AV.int h⟩
 | .lF x, .lF y=>dE (nV x y) λ h=>af ⟨(),ah AV.lF h⟩
 | .nM x, .nM y=>dE (nV x y) λ h=>af ⟨(),ah AV.nM h⟩
 | .none, .none=>af ⟨(),rfl⟩
 | .undef, .undef=>af ⟨(),rfl⟩
 | .own x, .own y=>dE (jn x y) λ h=>af ⟨(),ah AV.own h⟩
 | .bool x, .bool y=>dE (nV x y) λ h=>af ⟨(),ah AV.bool h⟩
 | .row x, .row y=>dE (nV x y) λ h=>af ⟨(),ah AV.row h⟩
 |_,_=>none
noncomputable def Ll:(l:ae (bI×AV))->(y:bI)->(v:AV)->aq {u:e9 // l.lookup y=af v}
 |[],_,_=>none
 |x::r,y,v=>match e:y==x.1 with
  |true=>ob (Xc x.2 v) λ h=>af ⟨(),by rw[f5,e,h.2]⟩
  |false=>ob (Ll r y v) λ h=>af ⟨(),by rw[f5,e]; exact h.2⟩
section
variable{P:cC}{ct:Ct}
def Wi(x:bI)(v:AV)(p:c9):SE P ct where
 bA:= .Name x p
 run:=λ σ K=>K v σ
 ch:=Cn ct x&&(Ll P.gl x v).isSome
 star:=λ aa aa=>rfl
 ok:=λ c F G ρ σ s Kv O R h=>by
  obtain⟨c1,c2⟩:=aF c
  cases e:Ll P.gl x v with
  |none=>rw[e] at c2; cases c2
  |some u=>exact(xGv (P:=P) (ct:=ct) x v p).ok c1 F G ρ σ s Kv O R ⟨u.2,h⟩
 ab:=λ s=>af [(.ex v,s)]
 cO:=λ aa s outs h σ gs=>by cases h; exact D2.ret rfl gs
end
noncomputable def gp(x:bI)(v:AV):bI×AV:=(x,v)
noncomputable def Wp:ae (ae Int):=[[23069,1,1,1],[9606,14,2,0],[4372,16,3,0],[2059,18,4,0],[984,20,5,0],[474,23,6,0],[229,25,7,0],[111,28,8,0],[54,30,9,0],[26,33,10,0],[13,35,11,0],[6,9,12,0],[3,10,13,0],[1,12,13,0],[23167,15,15,1],[16165,36,16,0],[11506,38,17,0],[8316,39,18,0],[6073,40,19,0],[4482,42,20,0],[3311,43,21,0],[2465,45,22,0],[1839,46,23,0],[1372,48,24,0],[1030,49,25,0],[771,51,26,0],[576,52,27,0],[433,54,28,0],[324,56,29,0],[245,57,30,0],[183,59,31,0],[138,60,32,0],[104,62,33,0],[78,63,34,0],[59,32,35,0],[44,33,9,0],[23265,37,37,1],[18508,64,38,0],[14861,65,39,0],[12017,67,40,0],[9759,68,41,0],[7987,69,42,0],[6568,70,43,0],[5400,72,44,0],[4471,73,45,0],[3700,74,46,0],[3067,75,47,0],[2552,77,48,0],[2145,78,49,0],[1798,79,50,0],[1485,48,51,0],[1246,50,52,0],[1039,50,53,0],[867,51,54,0],[724,52,55,0],[604,53,56,0],[504,54,57,0],[420,55,58,0],[352,56,59,0],[293,57,60,0],[246,58,61,0],[203,59,62,0],[171,61,63,0],[143,61,32,0],[23314,65,65,1],[19716,80,66,0],[16684,81,67,0],[14296,82,68,0],[12264,83,69,0],[10556,84,70,0],[9081,86,71,0],[7903,87,72,0],[6825,87,73,0],[5966,72,74,0],[5156,72,75,0],[4508,74,76,0],[3947,74,77,0],[3409,75,78,0],[2998,77,79,0],[2624,77,48,0],[22578,80,81,1],[19740,88,82,0],[17294,89,83,0],[15325,90,84,0],[13550,91,85,0],[11950,92,86,0],[10650,93,87,0],[9494,86,71,0],[21872,88,89,1],[19625,95,90,0],[17625,96,91,0],[15906,97,92,0],[14372,99,93,0],[12980,99,94,0],[11799,93,86,0],[22184,95,96,1],[20294,101,97,0],[18405,102,98,0],[16847,103,99,0],[15421,104,100,0],[14174,99,93,0],[21041,105,102,0],[19471,106,103,0],[17977,107,104,0],[16734,103,99,0],[22055,105,106,1],[20711,108,107,0],[19333,109,103,0],[21911,110,109,0],[20559,111,107,0],[23056,110,111,1],[21794,112,109,0],[23019,112,111,1],[23069,113,113,0]]
def TT:J2:={
 gl:=[gp "USUAL_DC" (.int 16),gp "USUAL_AC" (.int 5),gp "written" (.fn 42),gp "scan_keys" (.fn 61),gp "best_value" (.fn 56),gp "dc_values" (.fn 28),gp "ac_values" (.fn 35),gp "STATES" (.nM Wp),gp "Bins" (.val (.ref 245)),gp "DC_BINS" (.int 49),gp "next_context" (.fn 298),gp "put_bits" (.fn 284),gp "TO_BITS" (.int 14),gp "put_size" (.fn 270),gp "FIRST_SIZE" (.int 20),gp "MOST" (.int 32768),gp "AREA" (.int 28),gp "shifted" (.fn 410),gp "FIXED" (.int 113),gp "ac_bins" (.fn 403),gp "put_number" (.fn 424),gp "size_area" (.fn 396),gp "last_place" (.fn 417),gp "HALF" (.int 32768),gp "more_came" (.fn 256),gp "less_came" (.fn 263),gp "SPACE" (.int 19),gp "QmEncoder" (.val (.ref 567)),gp "DC_BOUNDS" (.lF [0,1]),gp "AC_SPLIT" (.int 5),gp "AcPart" (.val (.ref 469)),gp "ac_splits" (.fn 626),gp "DcPart" (.val (.ref 343)),gp "dc_bounds" (.fn 621),gp "DcRefinePart" (.val (.ref 385)),gp "AcRefinePart" (.val (.ref 511)),gp "ArithWriter" (.val (.ref 610)),gp "arith_parts" (.fn 633),gp "unit_count" (.fn 654),gp "units_across" (.fn 647),gp "unit_at" (.fn 661),gp "units" (.fn 668),gp "chosen_conditioning" (.fn 68),gp "scan_conditioning" (.fn 682),gp "parts" (.fn 696),gp "Frame" (.val (.ref 779)),gp "_law_take" (.fn 865),gp "Component" (.val (.ref 713)),gp "Grid" (.val (.ref 812)),gp "Scan" (.val (.ref 847)),gp "_law_units" (.fn 887),gp "MOST_TRIED" (.int 5),gp "data_size" (.fn 49),gp "arith_writer" (.fn 640),gp "grid_conditioning" (.fn 689),gp "_law_wanted" (.fn 897),gp "intervals_of" (.fn 675),gp "_law_intervals" (.fn 892),gp "_law_scan" (.fn 882),gp "_law_filled" (.fn 877),gp "_law_frame" (.fn 872),gp "_law_pool" (.fn 858)]
 blt:=["len","int","bytes","bytearray","abs","range","max","min","list","sorted","dict","set"]
 at_:=[(245,[0,1]),(343,[2,3,4,5,6,7]),(469,[2,8,9,10,11,4,12,5]),(567,[13,14,15,16]),(610,[17,18]),(713,[19,20,21,22]),(779,[23,24,25,26,27,9]),(812,[28,29]),(847,[30,31,32,33,11,34,4])]
 init:=[(245,242),(343,312),(469,445),(567,529),(610,586),(713,710),(779,731),(812,795),(847,830)]
 tP:=[(343,33,319),(343,40,326),(343,14,333),(469,33,452),(469,14,459),(567,35,536),(567,36,543),(567,37,550),(567,38,557),(567,39,564),(610,33,593),(610,14,600),(610,39,607),(779,45,736),(779,46,741),(779,47,748),(779,48,755),(779,44,762),(779,43,769),(779,49,776),(812,41,802),(812,35,809),(847,42,837)]}
end Mine
set_option maxHeartbeats 2000000
namespace Mine
section
variable{α:Type}{prog:aK}{w:bw}{A:bn}{E:ak->ar->Prop}{s:ar}
theorem Jb{o:ak}{name msg:bI}{Q:α->ar->Prop}(hh:A.handled=none)(hm:msg.length<=gh)
  (q:∀s' e,(∀a o,s.heap.get? a=af o->s'.heap.get? a=af o)->s'.gens=s.gens/\s'.os=s.os->s'.TypeIs e "AttributeError"->E e s'):
  aH (aE prog w) A (raiseAttrError o name msg:ie α) Q E s:=by
 unfold raiseAttrError
 refine aj (wpAny_mkStr (aj ?_) hm)
 unfold Ea newTuple
 refine aj (cP ?_)
 refine aj (m:=jH _ _) (bu (a:=c_) rfl ?_)
 refine cP ?_
 refine aj (wpAny_mkText (aj ?_))
 have he:=aN (s.heap.push {cls:=cR "tuple",data:=t5 #[mT msg s.toks]}) (o:={cls:=cR "AttributeError",data:=ib (#[du s.heap.objs.size,c_,c_,c_,H8 false,c_]++ownMembersOf (cR "AttributeError") [mT msg s.toks])}) rfl
 have hk:∀a o,s.heap.get? a=af o->((s.heap.push {cls:=cR "tuple",data:=t5 #[mT msg s.toks]}).push {cls:=cR "AttributeError",data:=ib (#[du s.heap.objs.size,c_,c_,c_,H8 false,c_]++ownMembersOf (cR "AttributeError") [mT msg s.toks])}:Heap).get? a=af o:=λ a o e=>aA _ (aA _ e)
 have hf:s.heap.get? (s.heap.push {cls:=cR "tuple",data:=t5 #[mT msg s.toks]}).objs.size=none:=df (by simp)
 generalize ((s.heap.push {cls:=cR "tuple",data:=t5 #[mT msg s.toks]}).push {cls:=cR "AttributeError",data:=ib (#[du s.heap.objs.size,c_,c_,c_,H8 false,c_]++ownMembersOf (cR "AttributeError") [mT msg s.toks])}:Heap)=H at he hk ⊢
 generalize (s.heap.push {cls:=cR "tuple",data:=t5 #[mT msg s.toks]}).objs.size=e at he hf ⊢
 have hT:∀t,({heap:=H,gens:=s.gens,drawn:=s.drawn,toks:=t,os:=s.os}:ar).TypeIs (.ref e) "AttributeError":=λ t=>⟨_,he,rfl⟩
 unfold noteAttr
 dsimp only
 refine aj ?_
 unfold lacksNameAndObj
 dsimp only
 refine aj (eO (b:=true) (hT _) (by rw[cj]; kernel_rfl) ?_)
 rw[iK,bC aW]
 refine aj (iR he ?_)
 dsimp only
 refine bu (a:=true) rfl ?_
 rw[dq rfl]
 refine aj (mC ?_)
 refine aj (j6 (hT _) ?_)
 dsimp only
 unfold layMembers
 refine aj (iR he ?_)
 dsimp only
 refine wpAny_update he ?_
 refine wpAny_raiseNew_none hh (q _ _ (λ a o' e'=>?_) ⟨rfl,rfl⟩ ?_)
 ·exact(DV _ _ (λ z:e=a=>by subst z; rw[hf] at e'; cases e')).trans (hk a o' e')
 ·exact⟨_,dK _ he rfl,rfl⟩
end
theorem Ao:hV (.type "list") "keys"=pure none:=by rw[bF,aZ]; kernel_rfl
section
variable{prog:aK}{w:bw}{A:bn}{E:ak->ar->Prop}{h:Heap}{g:bD d7}{d:Drawn}{t:Nat}{os:OsState}{l:au}{vs:bD ak}{n:Nat}
theorem E2{tk:kq}{R:Fin->ar->Prop}{Er:ak->ar->Prop}(hx:h.get? l=af ⟨.type "list",none, .seq vs n,#[]⟩)(hh:A.handled=none)
  (q:∀s' e,(∀a o,h.get? a=af o->s'.heap.get? a=af o)->s'.gens=g/\s'.os=os->s'.TypeIs e "AttributeError"->Er e s'):
  aH (aE prog w) A (b8.«object.__getattribute__» ⟨[.ref l, .str "keys" tk],[]⟩) R Er ⟨h,g,d,t,os⟩:=by
 have hT:(⟨h,g,d,t,os⟩:ar).TypeIs (.ref l) "list":=⟨_,hx,rfl⟩
 have f1:=Ao
 repeat (any_goals (first|assumption|wp_step))
 exact Jb (s:=⟨h,g,d,t,os⟩) hh (by rw[dZ]; decide+kernel) q
theorem IS{tk:kq}{R:iQ->ar->Prop}(hx:h.get? l=af ⟨.type "list",none, .seq vs n,#[]⟩)(hh:A.handled=none)
  (q:∀s' e,(∀a o,h.get? a=af o->s'.heap.get? a=af o)->s'.gens=g/\s'.os=os->s'.TypeIs e "AttributeError"->R (.error e) s'):
  codeAny (aE prog w) A (.call (.builtin "list.__getattribute__") ⟨[.ref l, .str "keys" tk],[]⟩) R ⟨h,g,d,t,os⟩:=
 codeAny_call_builtin F.slot_list_getattribute.plain F.entry_list_ga (F.slot_list_getattribute.check _ _ _ _ _ _ _ _ (show(⟨h,g,d,t,os⟩:ar).TypeIs (.ref l) "list" from⟨_,hx,rfl⟩) (F.args_list_getattribute_2 _ _) (E2 hx hh q))
theorem IR{Q:aq ak->ar->Prop}{Er:ak->ar->Prop}(hx:h.get? l=af ⟨.type "list",none, .seq vs n,#[]⟩)(hh:A.handled=none)
  (q:∀s',(∀a o,h.get? a=af o->s'.heap.get? a=af o)->s'.gens=g/\s'.os=os->Q none s'):aH (aE prog w) A (getAttr? (.ref l) "keys") Q Er ⟨h,g,d,t,os⟩:=by
 have hT:(⟨h,g,d,t+1,os⟩:ar).TypeIs (.ref l) "list":=⟨_,hx,rfl⟩
 have f2:=F.slot_list_getattribute.lookup
 have f3:=F.slot_list_getattribute.bind (.ref l)
 unfold getAttr? getAttrBy?
 refine aj (wpAny_mkText ?_)
 refine aj ?_
 refine kW ?_
 unfold getAttrBy
 refine bU ?_
 refine aj (j6 hT ?_)
 refine aj (bu f2 ?_)
 dsimp only
 rw[bC (by decide)]
 unfold getAttrByItsOwn
 refine aj (bu (a:=none) rfl ?_)
 refine aj ?_
 refine kW ?_
 refine bU ?_
 unfold callGetattribute boundAndCalled
 rw[bC (by decide)]
 refine aj (bu f3 ?_)
 refine vQ (IS (h:=h) (t:=t+1) hx hh λ s' e hk hz hT'=>?_)
 dsimp only
 unfold getattributeRaised
 refine aj (eO (b:=true) hT' (by rw[cj]; kernel_rfl) ?_)
 rw[dq rfl]
 unfold hookBehind
 rw[bC (by decide)]
 refine aj (bu (a:=none) list_getattr_none ?_)
 unfold hookOrError attributeErrorLeaves
 dsimp only
 rw[dq (by decide)]
 refine aj (wpAny_throw ?_)
 refine aj (eO (b:=true) hT' (by rw[cj]; kernel_rfl) ?_)
 rw[dq rfl]
 exact aw (q s' hk hz)
end
theorem kO:plainId "dict.update.loop"=true:=by decide+kernel
theorem p9:fA table "dict.update.loop"=af b8.«dict.update.loop»:=entryFor_of_fast (by kernel_rfl)
section
variable{prog:aK}{w:bw}{A:bn}{s:ar}{d l I:au}{vs:bD ak}
noncomputable def hZ(d I:au)(h:Heap):ae ak->ae (Int×ak)->Prop
 |[],[]=>True
 |u::us,(k,v)::kvs=>(∃a o ts n t,u= .ref a/\a≠d/\a≠I/\h.get? a=af o/\o.cls= .type "tuple"/\o.data= .seq ts n/\ts.toList=[.int k t,v])/\hZ d I h us kvs
 |_,_=>False
theorem FC(kvs:ae (Int×ak))(k:Int)(v:ak):(tv kvs k v).length<=kvs.length+1:=by
 unfold tv
 split<;>simp
theorem hZ.keeps{d I:au}{h h':Heap}(k:∀b o,b≠d->b≠I->h.get? b=af o->h'.get? b=af o):∀{us:ae ak} {kvs:ae (Int×ak)},hZ d I h us kvs->hZ d I h' us kvs
 |[],[]=>id
 |[],_::_=>id
 |_::_,[]=>id
 |_::us,y::kvs=>λ x=>⟨x.1.imp λ a=> .imp λ o=> .imp λ ts=> .imp λ n=> .imp λ t q=>⟨q.1,q.2.1,q.2.2.1,k a o q.2.1 q.2.2.1 q.2.2.2.1,q.2.2.2.2⟩,hZ.keeps (us:=us) (kvs:=kvs) k x.2⟩
theorem NK{R:iQ->ar->Prop}(hh:A.handled=none)(hdI:d≠I)(hdl:d≠l)(hIl:I≠l):∀(more:ae (Int×ak)) (i:Nat) (s:ar) (kvs:ae (Int×ak)),
  s.heap.DictOf (cE prog w) d kvs->s.heap.IsListIter I l i->s.heap.IsList l vs->hZ d I s.heap (vs.toList.drop i) more->kvs.length+more.length<=1000->
  (∀s' h',s'={s with heap:=h',toks:=s'.toks}->h'.DictOf (cE prog w) d (more.foldl (λ k x=>tv k x.1 x.2) kvs)->(∀b o,b≠d->b≠I->s.heap.get? b=af o->h'.get? b=af o)->R (.ok (.ret .none)) s')->
  codeAny (aE prog w) A (.builtin "dict.update.loop" ⟨[.ref d, .ref I,nC i, .none],[]⟩) R s:=by
 intro more
 induction more with
 |nil=>
  intro i s kvs hd it hl hp hz hR
  refine k5 p9 ?_
  rw[eB kO _]
  unfold b8.«dict.update.loop»
  show aH _ _ (gL (.ref I)>>=_) _ _ _
  have hn:vs.toList.drop i=[]:=by
   cases q:vs.toList.drop i with
   |nil=>rfl
   |cons u r=>rw[q] at hp; exact hp.elim
  refine aj (wpAny_pyNext_list_end hh it hl (by rw[← bP]; exact e8 (FS.mp hn)) λ h' e=>?_)
  refine aw ?_
  refine hR {s with heap:=h'} h' rfl (hd.extBut e (λ z=>hdI z)) λ b o h1 h2 h3=>e b o h2 h3
 |cons x more ih=>
  intro i s kvs hd it hl hp hz hR
  obtain⟨k,v⟩:=x
  refine k5 p9 ?_
  rw[eB kO _]
  unfold b8.«dict.update.loop»
  show aH _ _ (gL (.ref I)>>=_) _ _ _
  cases hq:vs.toList.drop i with
  |nil=>rw[hq] at hp; exact hp.elim
  |cons u r=>
   rw[hq] at hp
   obtain⟨⟨a,o,ts,n,t,rfl,nad,naI,ho,hc,hdt,e⟩,hp⟩:=hp
   have hu:vs[i]?=af (.ref a):=by rw[← bP,← List.head?_drop,hq]; rfl
   refine aj (wpAny_pyNext_list_item it hl hu λ h' wH sb=>?_)
   dsimp only
   refine aj (bU ?_)
   have ET:h'.get? a=af o:=sb.extBut a o naI ho
   refine aj (wpAny_tryCatch ?_)
   unfold Builtin.Dict.pairItems
   refine aj (j6 (s:={s with heap:=h'}) (T:="tuple") ⟨_,ET,hc⟩ ?_)
   rw[dq (by decide)]
   refine aj (wpAny_seqItems ET hdt ?_)
   refine aw ?_
   rw[show((af ts).getD #[]).toList=ts.toList from rfl,e]
   dsimp only
   refine bU ?_
   have Ls:Heap.DictOf (cE prog w) h' d kvs:=hd.extBut sb.extBut (λ z=>hdI z)
   have Ux:h'.IsList l vs:=by obtain⟨ol,x1,x2⟩:=hl; exact⟨ol,sb.extBut _ _ (λ z=>hIl z.symm) x1,x2⟩
   refine wpAny_dictSet_pairs (s:={s with heap:=h'}) (hsz:=by rw[dZ]; simp at hz; omega) (k:=k) (by show vd k (.int k t)=true; simp [vd]) Ls λ h2 hd2 sb2=>?_
   refine aw ⟨kV kO _,?_⟩
   have keep:∀b o,b≠d->b≠I->s.heap.get? b=af o->h2.get? b=af o:=λ b o n1 n2 q=>sb2.extBut b o n1 (sb.extBut b o n2 q)
   have:=ih (i+1) {s with heap:=h2,toks:=s.toks+1} (tv kvs k v) hd2 (wH.extBut sb2.extBut (λ z=>hdI z.symm)) (by obtain⟨ol,x1,x2⟩:=Ux; exact⟨ol,sb2.extBut _ _ (λ z=>hdl z.symm) x1,x2⟩)
    (by
     rw[show vs.toList.drop (i+1)=r by rw[← List.drop_drop,hq]; rfl]
     exact hp.keeps keep) (by have:=FC kvs k v; simp at hz; omega) (λ s' h3 e3 Uv k3=>hR s' h3 (by rw[e3]) Uv λ b o n1 n2 q=>k3 b o n1 n2 (keep b o n1 n2 q))
   exact this
end
section
variable{prog:aK}{w:bw}{A:bn}{E:ak->ar->Prop}{s:ar}{l:au}{vs:bD ak}{n:Nat}
theorem uU{more:ae (Int×ak)}{Q:ak->ar->Prop}(hh:A.handled=none)(hx:s.heap.get? l=af ⟨.type "list",none, .seq vs n,#[]⟩)(hp:∀d I,s.heap.get? d=none->s.heap.get? I=none->hZ d I s.heap vs.toList more)(hz:more.length<=1000)
  (h:∀s',s'.gens=s.gens/\s'.gens=s.gens/\s'.os=s.os->s'.heap.DictOf (cE prog w) s.heap.objs.size (more.foldl (λ k x=>tv k x.1 x.2) [])->(∀b o,s.heap.get? b=af o->s'.heap.get? b=af o)->Q (.ref s.heap.objs.size) s'):
  aH (aE prog w) A (call (.type "dict") [.ref l]) Q E s:=by
 refine D7 (Q₁:=λ obj s₁=>obj= .ref s.heap.objs.size/\s₁={s with heap:=s.heap.push {cls:= .type "dict",data:= .dict #[]}}) F.kt_called_dict (F.kt_typeCall_dict_1 _) F.entry_dict_init (kt_code_dict_new _ ⟨rfl,rfl⟩) ?_
 rintro obj s₁ ⟨rfl,rfl⟩
 have uY:(s.heap.push {cls:= .type "dict",data:= .dict #[]}).DictOf (cE prog w) s.heap.objs.size []:=Heap.DictOf.new s.heap
 have Wy:=aA {cls:= .type "dict",data:= .dict #[]} hx
 refine⟨uY.typeIs,F.args_dict_init_2 _ _,?_⟩
 unfold b8.«dict.__init__»
 refine aj ?_
 unfold Builtin.Dict.selfAndRest
 refine aj (ms uY.typeIs ?_)
 show aH _ _ (pure (s.heap.objs.size,[du l])) _ _ _
 refine aw ?_
 show aH _ _ (Builtin.Dict.updateFrom "dict.__init__" s.heap.objs.size (.ref l) [] .none) _ _ _
 unfold Builtin.Dict.updateFrom
 refine aj (j6 (T:="list") ⟨_,Wy,rfl⟩ ?_)
 rw[dq (by decide)]
 refine aj (IR Wy hh λ s' k z=>?_)
 rw[dq (show(none:aq ak).isNone=true from rfl)]
 have kk:∀a o,s.heap.get? a=af o->s'.heap.get? a=af o:=λ a o e=>k a o (aA _ e)
 have Si:s'.heap.IsList l vs:=⟨_,k _ _ Wy,⟨rfl,n,rfl⟩⟩
 refine aj (mC ?_)
 refine aj (xR Si ?_)
 refine aw ⟨kV kO _,?_⟩
 have IL:s.heap.objs.size < s'.heap.objs.size:=by
  obtain⟨o,es,ep,ho,_⟩:=uY
  exact b9 (k _ _ ho)
 have hlI:l < s'.heap.objs.size:=b9 (k _ _ Wy)
 have hls:l < s.heap.objs.size:=b9 hx
 have Ls:(s'.heap.push {cls:=cR "list_iterator",data:=ib #[du l,eC 0 0]}).DictOf (cE prog w) s.heap.objs.size []:=by
  obtain⟨o,es,ep,ho,r⟩:=uY
  exact⟨o,es,ep,aA _ (k _ _ ho),r⟩
 have dead:∀a,s.heap.objs.size<=a->s.heap.get? a=none:=λ a ha=>by
  cases e:s.heap.get? a with
  |none=>rfl
  |some o=>exact bt (b9 e) (Nat.not_lt.mpr ha)
 have hx2:(s'.heap.push {cls:=cR "list_iterator",data:=ib #[du l,eC 0 0]}).IsList l vs:=by
  obtain⟨o,ho,r⟩:=Si
  exact⟨o,aA _ ho,r⟩
 have hI:(s'.heap.push {cls:=cR "list_iterator",data:=ib #[du l,eC 0 0]}).IsListIter s'.heap.objs.size l 0:=⟨{cls:=cR "list_iterator",data:=ib #[du l,eC 0 0]},aN _ rfl,rfl,rfl⟩
 refine NK (A:=A.in1) (d:=s.heap.objs.size) (I:=s'.heap.objs.size) (l:=l) (vs:=vs) (show A.in1.handled=none from hh) (dO IL) (uO hls) (uO hlI) more 0 {s' with heap:=s'.heap.push {cls:=cR "list_iterator",data:=ib #[du l,eC 0 0]}} [] Ls hI hx2 ?_ (by simpa using hz) ?_
 ·refine hZ.keeps (h:=s.heap) (λ b o aa aa e=>aA _ (kk b o e)) ?_
  exact hp _ _ (dead _ (cF _)) (dead _ (by omega))
 ·intro s2 h2 e2 hd2 k2
  refine⟨rfl,h s2 ?_ ?_ λ b o e=>?_⟩
  ·rw[e2]; exact⟨z.1,z.1,z.2⟩
  ·rw[e2]; exact hd2
  ·rw[show s2.heap=h2 by rw[e2]]
   refine k2 b o (λ z=>?_) (λ z=>?_) (aA _ (kk b o e))
   ·subst z; rw[dead _ (cF _)] at e; cases e
   ·subst z; rw[dead _ (by omega)] at e; cases e
end
def Mz{α:Type}(o:aq α)(K:α->Prop):Prop:=match o with
 |some a=>K a
 |none=>False
theorem Mz.u{α:Type}{o:aq α}{K:α->Prop}{Q:Prop}(h:Mz o K)(k:∀a,o=af a->K a->Q):Q:=by
 rcases o with _|a
 ·exact h.elim
 ·exact k a rfl h
theorem Hn{α:Type}{o:aq α}{K:α->Prop}{a:α}(e:o=af a)(k:K a):Mz o K:=e▸k
noncomputable def PR(a:AV):aq Int:=match a with
 | .int i=>af i
 |_=>none
theorem PR.u{a:AV}{i:Int}(h:PR a=af i){Q:AV->Prop}(k:Q (.int i)):Q a:=by
 rcases a with _|_|_|j|_|_|_|_|_|_|_|_|_|_|_|_|_|_
 case int=>exact am h▸k
 all_goals exact cu h
noncomputable def pr2(xs:ae AV):aq (Int×AV):=match xs with
 |[k,v]=>ob (PR k) λ i=>af (i,v)
 |_=>none
noncomputable def Zf(a:AV):aq (Int×AV):=match a with
 | .tup xs=>pr2 xs
 |_=>none
theorem Zf.u{a:AV}{x:Int×AV}(h:Zf a=af x){Q:AV->Prop}(k:Q (.tup [.int x.1,x.2])):Q a:=by
 rcases a with _|_|_|_|_|_|_|_|_|_|xs|_|_|_|_|_|_|_
 case tup=>
  rcases xs with _|⟨y,_|⟨z,_|_⟩⟩
  case cons.cons.nil=>exact ob.u h λ i e h=>PR.u e (Q:=λ y=>Q (.tup [y,z])) (am h▸k:Q (.tup [.int (i,z).1,(i,z).2]))
  all_goals exact cu h
 all_goals exact cu h
noncomputable abbrev wU:ae AV->aq (ae (Int×AV)):=i2 Zf
def yi(d:ae Int×ae AV)(x:Int×AV):ae Int×ae AV:=(qd d.1 x.1,Di d.1 d.2 x.1 x.2)
noncomputable def JG(G:BM)(ρ:ae au):ae (Int×AV)->ae (Int×ak)->Prop
 |[],m=>m=[]
 |x::r,m=>∃y q,m=(x.1,y)::q/\VR G ρ x.2 y/\JG G ρ r q
theorem JG.len{G:BM}{ρ:ae au}:∀{l:ae (Int×AV)} {m:ae (Int×ak)},JG G ρ l m->m.length=l.length
 |[],_=>λ h=>(show _=[] from h)▸rfl
 |_::_,_=>λ h=>h.elim λ y h=>h.elim λ q h=>h.1▸ah rE (JG.len h.2.2)
theorem zb{G:BM}{ρ:ae au}{h:Heap}(kg:∀a o,G a=af o->h.get? a=af o):∀{xs:ae AV} {us:ae ak} {kvs:ae (Int×AV)},wU xs=af kvs->bJ G ρ xs us->
  ∃more:ae (Int×ak),(∀d I,h.get? d=none->h.get? I=none->hZ d I h us more)/\JG G ρ kvs more
 |[],us,kvs=>λ e v=>v.u0 (Q:=λ us=>∃more:ae (Int×ak),(∀d I,h.get? d=none->h.get? I=none->hZ d I h us more)/\JG G ρ kvs more) ⟨[],λ aa aa aa aa=>trivial,am e▸rfl⟩
 |x::r,us,kvs=>λ e v=>v.uc (Q:=λ us=>∃more:ae (Int×ak),(∀d I,h.get? d=none->h.get? I=none->hZ d I h us more)/\JG G ρ kvs more) λ u ur vu vr=>ob.u e λ w e1 e=>ob.u e λ l e2 e=>(zb kg e2 vr).elim λ more z=>
  (Zf.u e1 (Q:=λ x=>VR G ρ x u->∃more:ae (Int×ak),(∀d I,h.get? d=none->h.get? I=none->hZ d I h (u::ur) more)/\JG G ρ kvs more) λ vu=>vu.Jm (Q:=λ u=>∃more:ae (Int×ak),(∀d I,h.get? d=none->h.get? I=none->hZ d I h (u::ur) more)/\JG G ρ kvs more) λ a o vs g t hv=>
   t.2.elim λ n hdt=>(hv.u2 (Q:=λ ys=>vs.toList=ys->∃more:ae (Int×ak),(∀d I,h.get? d=none->h.get? I=none->hZ d I h (.ref a::ur) more)/\JG G ρ kvs more) λ y yr vy vz=>vy.iu (Q:=λ y=>vs.toList=[y,yr]->∃more:ae (Int×ak),(∀d I,h.get? d=none->h.get? I=none->hZ d I h (.ref a::ur) more)/\JG G ρ kvs more) λ tk ey=>
    ⟨(w.1,yr)::more,λ d I hd hI=>⟨⟨a,o,vs,n,tk,rfl,λ q=>dh hd (q▸kg _ _ g),λ q=>dh hI (q▸kg _ _ g),kg _ _ g,t.1,hdt,ey⟩,z.1 d I hd hI⟩,am e▸⟨yr,more,rfl,vz,z.2⟩⟩) rfl) vu
structure zC(G:BM)(ρ:ae au)(d:ae Int×ae AV)(m:ae (Int×ak)):Prop where
 ks:m.map (·.1)=d.1
 vs:bJ G ρ d.2 (m.map (·.2))
 nd:d.1.Nodup
theorem zC.put{G:BM}{ρ:ae au}{d:ae Int×ae AV}{m:ae (Int×ak)}(I:zC G ρ d m){k:Int}{v:AV}{y:ak}(hv:VR G ρ v y):zC G ρ (yi d (k,v)) (tv m k y):=by
 rw[show tv m k y=_ from vD k (λ kv=>(kv.1,y)) (k,y) m (I.ks▸I.nd)]
 have z:=qD (n:=k) Pg (val:=id) (f:=λ aa=>y) hv rfl (λ aa=>rfl) (xs:=m) (vs:=d.2) I.vs
 exact⟨z.1.trans (ah (qd · k) I.ks),(ah (λ ks=>bJ G ρ (jX KZ ks d.2 k v) ((sj k (λ kv=>(kv.1,y)) (k,y) m).map λ x:Int×ak=>x.2)) I.ks).mp z.2,(uD I.nd).1⟩
theorem zC.fold{G:BM}{ρ:ae au}:∀{kvs:ae (Int×AV)} {more:ae (Int×ak)} {d:ae Int×ae AV} {m:ae (Int×ak)},JG G ρ kvs more->zC G ρ d m->zC G ρ (kvs.foldl yi d) (more.foldl (λ k x=>tv k x.1 x.2) m)
 |[],more,d,m=>λ h I=>(show more=[] from h)▸I
 |x::r,more,d,m=>λ h I=>h.elim λ y h=>h.elim λ q h=>h.1▸zC.fold (kvs:=r) (more:=q) (d:=yi d x) h.2.2 (I.put h.2.1)
def dctP(kvs:ae (Int×AV)):AO:= .iM (kvs.foldl yi ([],[])).1 (kvs.foldl yi ([],[])).2
def sZ:vY:=λ a σ K=>ng a σ.mem λ xs=>Mz (wU xs) λ kvs=>cK (bB kvs.length 1000) (K (.own σ.mem.length) ⟨σ.loc,σ.mem++[dctP kvs]⟩)
section
variable{P:cC}{ct:Ct}
noncomputable def Oe:ae (Int×TV)->ae (Int×AV)->Prop
 |[],m=>m=[]
 |x::r,m=>∃y q,m=(x.1,y)::q/\GV x.2 y/\Oe r q
theorem Oe.len:∀{l:ae (Int×TV)} {m:ae (Int×AV)},Oe l m->m.length=l.length
 |[],_=>λ h=>(show _=[] from h)▸rfl
 |_::_,_=>λ h=>h.elim λ y h=>h.elim λ q h=>h.1▸ah rE (Oe.len h.2.2)
noncomputable def adn(t:TV):aq {x:Int×TV // ∀v,GV t v->∃w,Zf v=af (x.1,w)/\GV x.2 w}:=ob (tTp t) λ c=>ob (lr c.1.1) λ k=>af ⟨(k.1,c.1.2),λ v g=>(c.2▸g:GV (.tp c.1.1 c.1.2) v).elim λ a g=>g.elim λ b g=>⟨b,g.1▸(ly g.2.1 k.2).symm▸rfl,g.2.2⟩⟩
noncomputable def Nw:(ts:ae TV)->aq {kvs:ae (Int×TV) // ∀vs,dH ts vs->∃uZ,wU vs=af uZ/\Oe kvs uZ}
 |[]=>af ⟨[],λ vs g=>g.u0 (Q:=λ vs=>∃uZ,wU vs=af uZ/\Oe [] uZ) ⟨[],rfl,rfl⟩⟩
 |t::r=>ob (adn t) λ x=>ob (Nw r) λ l=>af ⟨x.1::l.1,λ vs g=>g.uc (Q:=λ vs=>∃uZ,wU vs=af uZ/\Oe (x.1::l.1) uZ) λ v us gv gu=>(x.2 v gv).elim λ w z=>(l.2 us gu).elim λ uZ y=>⟨(x.1.1,w)::uZ,bX z.1 y.1,w,uZ,rfl,z.2,y.2⟩⟩
def zs(d:ae Int×ae TV)(x:Int×TV):ae Int×ae TV:=(qd d.1 x.1,NC d.1 d.2 x.1 x.2)
theorem xq:∀{ks:ae Int} {ts:ae TV} {x:Int} {t:TV},ks.length=ts.length->(nh KZ ks x).length=(jX KZ ks ts x t).length
 |[],[],_,_=>λ aa=>rfl
 |k::ks,t::ts,x,u=>λ l=>by
  cases q:KZ k x with
  |true=>rw[qE q,ou q]; exact l
  |false=>rw[mN q,lp q]; exact ah (·+1) (xq (eJ l))
 |[],_::_,_,_=>λ l=>bt l.symm (cy _)
 |_::_,[],_,_=>λ l=>bt l (cy _)
structure yq(d:ae Int×ae TV)(e:ae Int×ae AV):Prop where
 ks:e.1=d.1
 vs:dH d.2 e.2
 ln:d.1.length=d.2.length
theorem yq.fold:∀{kvs:ae (Int×TV)} {uZ:ae (Int×AV)} {d:ae Int×ae TV} {e:ae Int×ae AV},Oe kvs uZ->yq d e->yq (kvs.foldl zs d) (uZ.foldl yi e)
 |[],uZ,d,e=>λ h I=>(show uZ=[] from h)▸I
 |x::r,uZ,d,e=>λ h I=>h.elim λ y h=>h.elim λ q h=>h.1▸yq.fold (kvs:=r) (uZ:=q) (d:=zs d x) (e:=yi e (x.1,y)) h.2.2 ⟨ah (qd · x.1) I.ks,(ah (λ ks=>dH (zs d x).2 (jX KZ ks e.2 x.1 y)) I.ks).mpr (qe h.2.1 I.ln I.vs),xq I.ln⟩
def S5(kvs:ae (Int×TV)):TO:= .iM (kvs.foldl zs ([],[])).1 (kvs.foldl zs ([],[])).2
theorem Re{m:ae AO}{kvs:ae (Int×TV)}{uZ:ae (Int×AV)}(h:Oe kvs uZ):GO m (S5 kvs) (dctP uZ):=
 have I:yq (kvs.foldl zs ([],[])) (uZ.foldl yi ([],[])):=yq.fold h ⟨rfl,rfl,rfl⟩
 ⟨_,ah (AO.iM · (uZ.foldl yi ([],[])).2) I.ks,I.vs⟩
def KV(t:TV)(s:AS):aq (ae (TV×AS)):=ob (vI t s) λ c=>ob (Nw c.1.2) λ kvs=>nB (bB kvs.1.length 1000) (af [(.ex (.own s.mem.length),⟨s.loc,s.mem++[S5 kvs.1]⟩)])
theorem IA{t:TV}{s:AS}{outs:ae (TV×AS)}{a:AV}{σ:St}(h:KV t s=af outs)(ga:GV t a)(gs:GS s σ):D2 (sZ a σ) GV outs:=
 ob.u h λ c aa h=>ob.u h λ kvs aa h=>nB.u h λ hl h=>gs.lst c ga (Q:=λ a=>D2 (sZ a σ) GV outs) λ us m gu=>(kvs.2 us gu).elim λ uZ z=>
  D2.one (a:=AV.own σ.mem.length) (σ:=⟨σ.loc,σ.mem++[dctP uZ]⟩) h (ah AV.own gs.mem.len.symm) ⟨gs.loc,gs.mem.app (Re z.2) rfl⟩ λ K k=>dI m (Hn z.1 (cK.i ((ah (bB · 1000) z.2.len).trans hl) k))
theorem IB:Op P ct (.type "dict") false sZ:=λ F G ρ σ s Kv a v aa O R va h=>
 ng.u (Q:=λ v=>WP P F.A (call (.type "dict") [v] []) (PE F ct.aS G ρ Kv) s) h R va λ l o us xs ho hl hv h=>h.u λ kvs e h=>h.u λ hz h=>(zb R.rm.kg e hv).elim λ more z=>hl.elim λ n hl=>
  X.any (uU (more:=more) O.room.2.2 (hl▸ho) z.1 (aG (aU z.2.len) (aQ hz)) λ s' w D' keep=>by
   have I:zC G ρ (kvs.foldl yi ([],[])) (more.foldl (λ k x=>tv k x.1 x.2) []):=zC.fold z.2 ⟨rfl,bJ.nil,gA⟩
   obtain⟨o',Be,JK,ET,hc',Ls,hk',hp',Sj⟩:=D'
   exact PE.Ff (ao:=dctP kvs) R R.K0 ET ⟨hc',Be,JK,_,Ls,I.ks▸xU.of hp' λ e he=>hk' e (gK.mp he),bJ.up (dG.refl _) (Ext.snoc _ _) _ I.vs,I.nd⟩ keep w h)
def OP:Bf P ct:=RX "dict" (.type "dict") sZ false (λ aa e=>nomatch e) IB KV λ t s outs a σ h ga gs=>IA h ga gs
def Wh(q:c9)(as:SL P ct)(p:c9):SE P ct:=xB OP q as p
end
section
variable{prog:aK}{w:bw}{A:bn}{E:ak->ar->Prop}{s:ar}
theorem B9{id:cS}{o:au}{oo:Obj}{e:bf}{ep:Nat}{a:au}{Q:bD bf->ar->Prop}(ho:s.heap.get? o=af oo)(hd:oo.data= .dict #[e] ep)(ha:e.key= .ref a)(ht:s.TypeIs (.ref a) "tuple")(h:Q #[e] s):
  aH (aE prog w) A (Builtin.Dict.entriesForEmpty id o) Q E s:=by
 unfold Builtin.Dict.entriesForEmpty
 refine aj (eh ho hd ?_)
 rw[← Array.forIn_toList]
 show aH _ _ (forIn [e] _ _>>=_) _ _ _
 rw[xD]
 refine aj (aj ?_)
 unfold Builtin.Dict.quietEq
 rw[ha]
 dsimp only
 refine aj (aj (cX ht PySem.F.slot_tuple_eq.lookup (aw ?_)))
 rw[dq (by decide)]
 have hf:¬(Array.filter (λ x=>x.hash==e.hash) #[e]).size > 1:=by
  have:=Array.size_filter_le (p:=λ x:bf=>x.hash==e.hash) (xs:=#[e])
  simp at this ⊢<;>omega
 rw[bC hf]
 exact aw (aw (aw h))
theorem Ew{o:au}{oo:Obj}{es:bD bf}{ep:Nat}{Q:ak->ar->Prop}(hoS:(o==di)=false)(ho:s.heap.get? o=af oo)(hc:oo.ExactDict)(hd:oo.data= .dict es ep)
  (hk:∀e∈es.toList,∃a ob,e.key= .ref a/\s.heap.get? a=af ob/\ob.cls= .type "tuple") (hz:es.size<=1)
  (h:∀h' o' JK,h'.get? s.heap.objs.size=af o'->o'.ExactDict->o'.data= .dict es JK->(∀b x,s.heap.get? b=af x->h'.get? b=af x)->Q (.ref s.heap.objs.size) {s with heap:=h'}):
  aH (aE prog w) A (call (.type "dict") [.ref o]) Q E s:=by
 refine D7 (Q₁:=λ obj s₁=>obj= .ref s.heap.objs.size/\s₁={s with heap:=s.heap.push {cls:= .type "dict",data:= .dict #[]}}) PySem.F.kt_called_dict (PySem.F.kt_typeCall_dict_1 _) PySem.F.entry_dict_init (kt_code_dict_new _ ⟨rfl,rfl⟩) ?_
 rintro obj s₁ ⟨rfl,rfl⟩
 have uY:(s.heap.push {cls:= .type "dict",data:= .dict #[]}).get? s.heap.objs.size=af {cls:= .type "dict",data:= .dict #[]}:=aN _ rfl
 have ET:(s.heap.push {cls:= .type "dict",data:= .dict #[]}).get? o=af oo:=aA _ ho
 have hdo:s.heap.objs.size≠o:=λ e=>bt (b9 ho) (by rw[e]; exact fw _)
 have hT:Shared.TypeIs {s with heap:=s.heap.push {cls:= .type "dict",data:= .dict #[]}} (.ref o) "dict":=⟨_,ET,hc.1⟩
 have hTn:Shared.TypeIs {s with heap:=s.heap.push {cls:= .type "dict",data:= .dict #[]}} (.ref s.heap.objs.size) "dict":=⟨_,uY,rfl⟩
 refine⟨hTn,PySem.F.args_dict_init_2 _ _,?_⟩
 unfold b8.«dict.__init__»
 refine aj ?_
 unfold Builtin.Dict.selfAndRest
 refine aj (ms hTn ?_)
 show aH _ _ (pure (s.heap.objs.size,[du o])) _ _ _
 refine aw ?_
 show aH _ _ (Builtin.Dict.updateFrom "dict.__init__" s.heap.objs.size (.ref o) [] .none) _ _ _
 unfold Builtin.Dict.updateFrom
 refine aj (j6 hT ?_)
 rw[bC (by decide)]
 refine aj ?_
 unfold Builtin.Dict.merge
 refine aj ?_
 unfold Builtin.Dict.readDirectly
 refine aj (eO hT isSubtype_dict_dict ?_)
 simp only[iK,te,if_false]
 refine aj (cX hT PySem.F.slot_dict_iter.lookup (aw ?_))
 simp only[qP,if_true]
 refine aj (aw ?_)
 unfold Builtin.Dict.mergeDict
 rw[bC (by simpa using hdo)]
 unfold Builtin.Dict.showsAll
 rw[bC (by rw[hoS]; exact aW)]
 refine aj (aw ?_)
 refine aj (eh ET hd ?_)
 dsimp only
 obtain⟨l⟩:=es
 have hc2:l=[]\/∃e,l=[e]:=by
  cases l with
  |nil=>exact .inl rfl
  |cons e r=>
   cases r with
   |nil=>exact .inr ⟨e,rfl⟩
   |cons e' r=>exact bt hz (by simp)
 rcases hc2 with rfl|⟨e,rfl⟩
 ·rw[bC (by simp)]
  refine aj (nF ET hd ?_)
  refine aj (eh ET hd ?_)
  rw[m6]
  simp only[Std.Legacy.Range.size,Nat.sub_zero,Nat.add_sub_cancel,Nat.div_one]
  show aH _ _ (forIn ([]:ae Nat) _ _>>=_) _ _ _
  rw[List.forIn_nil]
  exact aj (aw (aw (aj (aw (aw ⟨rfl,h _ _ _ uY ⟨rfl,rfl,rfl⟩ rfl λ b x q=>aA _ q⟩)))))
 ·obtain⟨a,ob,e1,e2,e3⟩:=hk e aR
  rw[dq (by obtain⟨_,_,_⟩:=e; subst e1; kernel_rfl)]
  refine aj (eh uY rfl ?_)
  rw[dq (by rfl)]
  refine aj (B9 ET hd e1 ⟨ob,aA _ e2,e3⟩ ?_)
  rw[dq (by rfl)]
  refine aj (wpAny_updateDictKeysTo uY rfl (aw ?_) (by simp))
  exact aj (aw (aw ⟨rfl,h _ _ _ (dK _ uY rfl) ⟨rfl,rfl,rfl⟩ rfl λ b x q=>(DV _ _ (λ z=>bt (b9 q) (by rw[← z]; exact fw _))).trans (aA _ q)⟩))
end
section
variable{P:cC}{ct:Ct}
def xa:vY:=λ a σ K=>l_ a σ.mem λ ks vs=>cK (bB ks.length 1) (K (.own σ.mem.length) ⟨σ.loc,σ.mem++[.bG ks vs]⟩)
noncomputable def Xz(o:AO):aq {c:ae (ae Int)×ae AV // o= .bG c.1 c.2}:=match o with
 | .bG ks vs=>af ⟨(ks,vs),rfl⟩
 |_=>none
def abv(a:AV)(m:ae AO):aq {c:ae (ae Int)×ae AV // ∀K:ae (ae Int)->ae AV->Prop,K c.1 c.2->l_ a m K}:=match a with
 | .own p=>jN (bM m p) λ o ho=>ob (Xz o) λ c=>af ⟨c.1,λ K z=>dI ho (c.2▸z)⟩
 | .bG ks vs=>af ⟨(ks,vs),λ K z=>z⟩
 |_=>none
def Pi(a:AV)(σ:St):aq {r:AV×St // tA (xa a σ) r}:=ob (abv a σ.mem) λ d=>bE (bB d.1.1.length 1) λ h=>af ⟨(.own σ.mem.length,⟨σ.loc,σ.mem++[.bG d.1.1 d.1.2]⟩),λ K z=>d.2 _ (cK.i h z)⟩
theorem Iz:Op P ct (.type "dict") false xa:=λ F G ρ σ s Kv a v aa O R va h=>by
 rcases y8 O R va h with⟨d,o,es,ep,us,ks,dx,rfl,ho,hc,ns,hd,hk,hv,hn,h⟩
 exact h.u λ hl h=>(hk.rows (prog:=P.prog) (w:=P.w)).elim λ xs z=>
  X.any (Ew (d_.mpr ns) ho hc hd (λ e he=>(dN.mp (z.2.2.1▸he)).elim λ x w=>(z.2.2.2 x w.1).elim λ o' t=>t.elim λ vs t=>⟨x.2.1,o',ah DictEntry.key w.2.symm,R.rm.kg _ _ t.1,t.2.1.1⟩)
   (aG (aU (bh.symm.trans ((ah fZ z.2.2.1).trans ((bL _).trans ((bL _).symm.trans (ah fZ z.1)))))) (aQ hl))
   λ h' o' JK g c' d' keep=>PE.Ff (ao:= .bG ks dx) (s':={s with heap:=h'}) R R.K0 g ⟨c',es,JK,us,d',hk,bJ.up (dG.refl _) (Ext.snoc _ _) _ hv,hn⟩ keep ⟨rfl,rfl,rfl⟩ h)
def OO:Bf P ct:=RX "dict" (.type "dict") xa false (λ aa e=>nomatch e) Iz (XG Pi) z5
def Wg(q:c9)(as:SL P ct)(p:c9):SE P ct:=xB OO q as p
end
theorem cx.ints:∀{ns:ae Int} {vs:ae ak},cx ns vs->IntsAre vs ns
 |[],_=>λ h=>h.u0 (Q:=λ vs=>IntsAre vs []) .nil
 |n::r,_=>λ h=>h.uc (Q:=λ vs=>IntsAre vs (n::r)) λ t aa h=> .cons n t h.ints
section
variable{prog:aK}{w:bw}{A:bn}{E:ak->ar->Prop}{s:ar}
theorem PZ{k:Int}{v:ak}(h:(cE prog w).is k v=true):∃t,v= .int k t:=by
 rcases v with _|_|_|_|⟨n,t⟩|_|_|_|_|_|_
 case int=>exact⟨t,ah (eC · t) (a4.mp (show(n==k)=true from h))⟩
 all_goals exact ay (show false=true from h)
theorem y3:∀{kvs:ae (Int×ak)} {vs:ae ak},vs.length=kvs.length->(∀(j:Nat) (v:ak),vs[j]?=af v->∃k x,kvs[j]?=af (k,x)/\(cE prog w).is k v=true)->cx (kvs.map (·.1)) vs
 |[],vs=>λ l aa=>cZ.mp l
 |x::r,[]=>λ l=>bt l.symm (cy _)
 |x::r,v::vs=>λ l h=>(h 0 v rfl).elim λ k w=>w.elim λ y w=>(PZ w.2).elim λ t e=>⟨t,vs,(ah (λ z:Int×ak=>eC z.1 t::vs) (am w.1)).symm▸e▸rfl,y3 (eJ l) λ j u hu=>h (j+1) u hu⟩
theorem tG{d:au}{kvs:ae (Int×ak)}{ep:Nat}{Q:ak->ar->Prop}(hh:A.handled=none)(lo:(d==di)=false)(hd:s.heap.DictAt (cE prog w) d kvs ep)(h64:kvs.length < 64)
  (h:∀h' tk vs (o:au) (n:Nat),cx (nA (kvs.map (·.1))) vs->s.heap.get? o=none->h'.get? o=af {cls:= .type "list",dict:=none,data:= .seq vs.toArray n,slots:=#[]}->(∀b x,s.heap.get? b=af x->h'.get? b=af x)->Q (.ref o) {s with heap:=h',toks:=tk}):
  aH (aE prog w) A (call (.builtin "sorted") [.ref d]) Q E s:=by
 refine ny kind_sorted plain_sorted entry_sorted (args_sorted1 _) ?_
 unfold b8.«sorted»
 refine aj (m:=checkCount "sorted" 1 1 _) (aw ?_)
 refine aj (kdu_collect (A:=A.in1) (kdl_dict (knd:=cE prog w) (kvs:=kvs) (ep:=ep) lo) hh hd (by rw[dZ]; omega) λ h' tk acc hk Ln=>?_)
 have hl:acc.toList.length=kvs.length:=by rw[bh]; exact Ln.1
 refine aj (wpAny_newList ?_ (by rw[hl,dZ]; omega))
 have hI:cx (kvs.map (·.1)) acc.toList:=y3 (prog:=prog) (w:=w) hl λ j v e=>Ln.2 j v (by rw[← bP]; exact e)
 have JM:(h'.push (seqObj "list" acc.toList.toArray 0)).get? h'.objs.size=af (seqObj "list" acc.toList.toArray 0):=aN _ rfl
 have Lv:s.heap.get? h'.objs.size=none:=by
  cases e:s.heap.get? h'.objs.size with
  |none=>rfl
  |some o=>exact bt (b9 (hk _ _ e)) (fw _)
 refine aj (bU (cA slot_list_sort ⟨_,JM,rfl⟩ entry_list_sort (list_sort_tree JM hI.ints (by rw[hl]; exact h64) λ out Bj a1 a2 a3=>⟨_,rfl,?_⟩) (args_list_sort _)))
 obtain⟨n,hn⟩:=sortedHeap_at (vs:=acc.toList) (out:=out) JM
 refine aw ⟨_,rfl,h _ tk out.toList h'.objs.size n (by rw[← eq_sortI a2 a3]; exact cx.Hi a1) Lv (by rw[D0]; exact hn) λ b x q=>?_⟩
 have hb:=b9 (hk _ _ q)
 rw[sortedHeap_old (dO hb) (by rw[size_push']; exact Nat.lt_succ_of_lt hb)]
 exact aA _ (hk _ _ q)
end
section
variable{P:cC}{ct:Ct}
def KR(o:AO)(K:ae Int->Prop):Prop:=match o with
 | .iM ks _=>K ks
 |_=>False
theorem KR.u{o:AO}{K:ae Int->Prop}{Q:AO->Prop}(h:KR o K)(k:∀ks vs,K ks->Q (.iM ks vs)):Q o:=by
 rcases o with _|_|_|_|⟨ks,vs⟩|_|_|_
 case iM=>exact k ks vs h
 all_goals exact h.elim
noncomputable def abu(o:AO):aq {c:ae Int // ∀K:ae Int->Prop,K c->KR o K}:=match o with
 | .iM ks _=>af ⟨ks,λ aa z=>z⟩
 |_=>none
noncomputable def acS(a:AV):aq {p:Nat // a= .own p}:=match a with
 | .own p=>af ⟨p,rfl⟩
 |_=>none
def s4:vY:=λ a σ K=>lI a λ p=>pG σ.mem p λ o=>KR o λ ks=>cK (bB ks.length 9) (K (.own σ.mem.length) ⟨σ.loc,σ.mem++[.il (nA ks)]⟩)
def Pj(a:AV)(σ:St):aq {r:AV×St // tA (s4 a σ) r}:=ob (acS a) λ p=>jN (bM σ.mem p.1) λ o ho=>ob (abu o) λ c=>bE (bB c.1.length 9) λ h=>af ⟨(.own σ.mem.length,⟨σ.loc,σ.mem++[.il (nA c.1)]⟩),λ K z=>p.2▸(dI ho (c.2 _ (cK.i h z)):s4 (.own p.1) σ K)⟩
theorem RA{α β:Type}{k:ae α}{l:ae β}(e:l.length=k.length):(k.zip l).map (·.1)=k:=hF (aU e.symm)
theorem Jj:Op P ct (.builtin "sorted") false s4:=λ F G ρ σ s Kv a v aa O R va h=>
 lI.u (Q:=λ a=>VR G ρ a v->WP P F.A (call (.builtin "sorted") [v] []) (PE F ct.aS G ρ Kv) s) h (λ p h va=>h.u λ o e h=>R.own va e (Q:=λ v=>WP P F.A (call (.builtin "sorted") [v] []) (PE F ct.aS G ρ Kv) s) λ adr ob jK h1 w=>KR.u (Q:=λ o=>OR G ρ o ob->WP P F.A (call (.builtin "sorted") [.ref adr] []) (PE F ct.aS G ρ Kv) s) h (λ ks vs h w=>h.u λ hz h=>
  w.2.elim λ es w2=>w2.elim λ ep w2=>w2.elim λ us w2=>have z:=w2.2.1.pairs (prog:=P.prog) (w:=P.w)
   have hm:(ks.zip us).map (·.1)=ks:=RA z.2.2
   X.any (tG (kvs:=ks.zip us) (ep:=ep) O.room.2.2 (d_.mpr (AK O R (im jK))) ⟨ob,es,h1,w.1,w2.1,λ e he=>z.2.1 e (gK.mpr he),z.1,hm.symm▸w2.2.2.2⟩
    (aT (aU ((bL _).symm.trans (ah fZ hm))) (aT (aQ hz) (by decide)))
    λ h' tk ry o n hi ho1 Uz keep=>PE.Ff (ao:= .il (nA ks)) (s':={s with heap:=h',toks:=tk}) R ho1 Uz ⟨ry.toArray,⟨_,rfl⟩,(ah (λ l=>cx (nA l) ry) hm).mp hi⟩ keep ⟨rfl,rfl,rfl⟩ h)) w) va
def OQ:Bf P ct:=RX "sorted" (.builtin "sorted") s4 false (λ aa e=>nomatch e) Jj (XG Pj) z5
def NU(q:c9)(as:SL P ct)(p:c9):SE P ct:=xB OQ q as p
end
noncomputable def XS:ae aC->ae AV->ae AV
 |b::r,v::l=>aX b .undef v::XS r l
 |[],l=>l
 |_::_,[]=>[]
theorem GJ:∀{b:ae aC} {l:ae AV} {i:Nat} {v:AV},(XS b l)[i]?=af v->v≠ .undef->l[i]?=af v
 |true::b,x::r,0,v=>λ h n=>bt (am h).symm n
 |false::b,x::r,0,v=>λ h aa=>h
 |_::b,x::r,i+1,v=>λ h n=>GJ (b:=b) (l:=r) (i:=i) h n
 |[],l,i,v=>λ h aa=>h
 |_::_,[],i,v=>λ h aa=>cu h
def Vr(n:Nat)(m:ae AO):Fl->aq Fl
 | .d8=>af .d8
 | .ret v=>ob (lW n m 12 v) λ w=>af (.ret w)
def fzF(n:Nat)(fg:ae aC)(f:Fl)(σ:St):aq (Fl×St):=ob (Vr n σ.mem f) λ f'=>ob (i2 (lW n σ.mem 12) (XS fg σ.loc)) λ l=>ob (i2 (yj n σ.mem 12) (Rf n σ.mem)) λ m=>af (f',⟨l,m⟩)
def Lc(n:Nat)(fg:ae aC)(K:Fl->St->Prop)(f:Fl)(σ:St):Prop:=Mz (fzF n fg f σ) λ r=>K r.1 r.2
section
variable{P:cC}{ct:Ct}
theorem Vt{n k:Nat}{m:ae AO}{v w:AV}(h:lW n m (k+1) v=af w)(nv:w≠ .undef):v≠ .undef:=λ e=>nv (am ((e▸h:lW n m (k+1) .undef=af w).symm.trans rfl))
theorem RF.fz{F:Fd}{G G':BM}{ρ τ:ae au}{σ b7:St}{s s':ar}{fg:ae aC}{l:ae AV}{m:ae AO}(O:gM P ct F)(R:RF F ct.aS G ρ σ s)(R':RF F ct.aS G' (ρ++τ) b7 s')
  (hl:i2 (lW ρ.length b7.mem 12) (XS fg b7.loc)=af l) (hm:i2 (yj ρ.length b7.mem 12) (Rf ρ.length b7.mem)=af m):RF F ct.aS (fU G' τ s'.heap) ρ ⟨l,m⟩ s':=
 have sys:Sys (ρ++τ):=λ a ha=>AK O R' ha
 have UF {a:au}:a∈ρ->a∈ρ++τ:=dA τ
 have nG {a:au} (g:G' a=none) (k:a∉ρ++τ):fU G' τ s'.heap a=none:=none_of λ o e=>(fU.of e).elim (dh g) λ w=>k (cD _ w.1)
 {rm:=R'.rm.fz sys hm,ns:=R'.ns,
  loc:=λ i x v e e' nv=>(vq hl i v e').elim λ u w=>have nu:=Vt w.2 nv; (R'.loc i x u e (GJ w.1 nu) nu).imp λ y z=>⟨sX R'.rm sys 12 u w.2 z.1,z.2⟩,
  lG:=nG R'.lG R'.Bi,Bi:=λ h=>R'.Bi (UF h),cell:=λ x c e=>(R'.cell x c e).imp_right λ z=>⟨λ h=>z.1 (UF h),z.2.1,λ k=>nG (z.2.2 k) z.1⟩,
  p6:=R'.p6,keep:=R'.keep,live:=R'.live,ext:=R.ext,nw:=λ a ha=>R'.nw a (UF ha),Cp:=R'.Cp.trans fU.le,
  Bh:=λ a o e=>(fU.of e).elim (R'.Bh a o) λ w=>(R'.nw a (cD _ w.1)).imp (λ c=>bt w.1 (zI R'.rm.nd (R.ext.mem c))) id,gz:=R'.gz}
theorem FR.fz{G:BM}{ρ τ:ae au}{m:ae AO}{h:Heap}(R:RM G (ρ++τ) m h)(sys:Sys (ρ++τ)){f f':Fl}{fl:my}(e:Vr ρ.length m f=af f')(r:FR G (ρ++τ) f fl):FR (fU G τ h) ρ f' fl:=by
 rcases f with _|v
 ·exact am e▸r
 ·exact ob.u e λ w e1 e=>am e▸r.imp λ u=> .imp_right (sX R sys 12 v e1)
noncomputable def Nm(fg:ae aC)(b:SS P ct):SS P ct where
 bA:=b.bA
 run:=λ σ K=>b.run σ (Lc σ.mem.length fg K)
 ch:=b.ch
 ok:=λ c F G ρ σ s Kv O R h=>X.mono (b.ok c F G ρ σ s _ O R h) λ f s' z=>z.u λ G' ρ' fl b7 g x R' fr k=>k.u λ r w k=>x.elim λ τ e=>ob.u w λ f' e1 h=>ob.u h λ l e2 h=>ob.u h λ m e3 h=>by
  subst e
  rw[← R.rm.len] at e1 e2 e3
  exact⟨_,ρ,f',⟨l,m⟩,g.trans fU.le,Ext.refl _,R.fz O R' e2 e3,FR.fz R'.rm (λ a ha=>AK O R' ha) e1 fr,(am h▸k:Kv (f',(⟨l,m⟩:St)).1 (f',(⟨l,m⟩:St)).2)⟩
end
noncomputable abbrev Sg(prog:aK)(w:bw)(A:bn)(c:vL)(t:ie Fin)(fs:ae Frame)(s:ar)(P:End->ar->Prop):Prop:=PySem.W.X.SegX (aE prog w) A c t fs s P
section
variable{prog:aK}{w:bw}{A:bn}{c:vL}{fs:ae Frame}{s:ar}{env:Env}{P:End->ar->Prop}
theorem qH{α:Type}{m:ie α}{K:α->ie Fin}{H:ak->ie Fin}{gd:aC->aC}{lv:ae ak->ae ak}(h:aH (aE prog w) (A.over c fs) m (λ a s'=>Sg prog w A c (K a) fs s' P) dw s):Sg prog w A c (m.wrap K H gd lv) fs s P:=by
 rintro Γ p rfl N4
 obtain⟨e,s',hr,hq⟩:=runs_wrap_of_wp (Φ:=λ e s'=>e.quiet=true/\P e s') K H gd lv m (h (Γ.over fs) p (N4.over fs)) (λ a p' s' h'=>h' Γ p' rfl N4) (λ aa aa aa z=>z.elim)
 exact⟨e,s',hr,hq⟩
theorem s5{α β:Type}{m:ie α}{f:α->ie β}{K:β->ie Fin}{H:ak->ie Fin}{gd:aC->aC}{lv:ae ak->ae ak}
  (h:aH (aE prog w) (A.over c fs) m (λ a s'=>Sg prog w A c ((f a).wrap K H gd lv) fs s' P) dw s):Sg prog w A c ((m>>=f).wrap K H gd lv) fs s P:=by
 rw[iX,jZ]
 exact qH h
noncomputable abbrev Y_(env:Env)(K:my->ie Fin)(H:ak->ie Fin)(gd:aC->aC)(lv:ae ak->ae ak):iQ->ie Fin:=λ r=>((match r with | .ok f=>(.pure f:ie my) | .error e=> .raise e).onRaise λ(x:ak)=>do
    if (← field x 1)==c_ then A9 "frame.own-activation:exception-without-traceback"
    setFlight x env.frame).wrap K H gd lv
theorem VP{t it:aB}{b:ae f0}{pos:c9}{K:my->ie Fin}{H:ak->ie Fin}{gd:aC->aC}{lv:ae ak->ae ak}(hs:∀x,ef it env x=pure x)
  (h:aH (aE prog w) (A.over c fs) (eval it env) (λ x s₁=>aH (aE prog w) (A.over c fs) (iz x) (λ i bp=>∀p,Sg prog w A (.forLoop t i b [] env) (denote table (.forLoop t i b [] env)) (.ret (Y_ env K H gd lv) none (gd false) (lv []) c p []::fs) bp P) dw s₁) dw s):
  Sg prog w A c ((exec (.For t it b [] pos) env).wrap K H gd lv) fs s P:=by
 rw[exec_For]
 refine s5 (hW ?_)
 refine s5 (c7 h (λ x s₁ bH=>?_) λ aa aa z=>z)
 refine s5 ?_
 rw[hs x]
 refine aw ?_
 refine s5 (hW ?_)
 refine s5 (bU (c7 bH (λ i bp cW=>?_) λ aa aa z=>z))
 exact PySem.W.X.s_call prog w A c fs P bp _ _ _ _ _ cW
noncomputable abbrev Uh(env:Env):ak->ie Fin:=λ e=>(do qO e env; k6 e:ie e9).wrap (λ aa=> .raise e) .raise id id
noncomputable abbrev Ui(c:vL):my->ie Fin:=λ f=>match f with
 | .next | .cont=> .pure (.again c)
 | .brk=> .pure (.done .next)
 | .ret v=> .pure (.done (.ret v))
theorem xf{t:aB}{it:ak}{b:ae f0}
  (h:aH (aE prog w) (A.over (.forLoop t it b [] env) fs) (gL it) (λ r s₁=>match r with
   |none=>Sg prog w A (.block [] env) (denote table (.block [] env)) fs s₁ P
   |some v=>aH (aE prog w) (A.over (.forLoop t it b [] env) fs) (dy t it v) (λ aa bp=>aH (aE prog w) (A.over (.forLoop t it b [] env) fs) (assign t env v) (λ aa fW=>
     Sg prog w A (.forLoop t it b [] env) ((execs b env).wrap (Ui (.forLoop t it b [] env)) (Uh env) id id) fs fW P) dw bp) dw s₁) dw s):
  Sg prog w A (.forLoop t it b [] env) (denote table (.forLoop t it b [] env)) fs s P:=by
 show Sg prog w A _ ((forTurn t it b [] env).onRaise (λ x=>do qO x env; k6 x)) fs s P
 unfold forTurn
 rw[Jy]
 refine s5 (hW ?_)
 refine s5 (c7 (X.back (X.raises (X.any h))) (λ r s₁ bH=>?_) λ aa aa z=>z)
 cases r with
 |none=>exact rG prog w A _ fs P s₁ _ rfl bH
 |some v=>
  refine s5 (c7 bH (λ aa bp cW=>s5 (c7 cW (λ aa fW fH=>?_) λ aa aa z=>z)) λ aa aa z=>z)
  rw[iX,jZ]
  rw[Sem.wrap_congr (execs b env) _ _ (K':=Ui (.forLoop t it b [] env)) (H':=Uh env)
    (λ f=>by cases f<;>rfl)
    (λ e=>by first|exact vN _ _|(show(do qO e env; k6 e:ie e9).bind (λ aa=> .raise e)=_; rw[vN]))]
  exact fH
theorem AI{st:f0}{rest:ae f0}{K:my->ie Fin}{H:ak->ie Fin}{gd:aC->aC}{lv:ae ak->ae ak}
  (h:Sg prog w A c ((exec st env).wrap (λ f=>match f with | .next=>(execs rest env).wrap K H gd lv|f=>K f) H gd lv) fs s P):Sg prog w A c ((execs (st::rest) env).wrap K H gd lv) fs s P:=by
 rw[execs_cons_wrap]; exact h
theorem Nh{e:aB}{yp pos:c9}{K:my->ie Fin}{H:ak->ie Fin}{gd:aC->aC}{lv:ae ak->ae ak}(hfs:splitAtGen fs=none)(hgd:gd false=false)(hfg:fs.any Frame.guarded=false)(N2:env.scope.isCoroutine=false)(hi:A7 env=false)
  (h:aH (aE prog w) (A.over c fs) (eval e env) (λ v s'=>∀p l k,k (.send .none)=K .next->P (.susp v false l k c p fs) s') dw s):Sg prog w A c ((exec (.Expr (.Yield (af e) yp) pos) env).wrap K H gd lv) fs s P:=by
 rw[exec_Expr env _ pos hi rfl]
 show Sg prog w A c (.at pos λ aa=>((eval e env>>=λ v=>(dp yp>>=λ aa=>yieldOut env v))>>=λ x=>dropValue (.Yield (af e) yp) pos x).wrap K H gd lv) fs s P
 have hy:∀v,yieldOut env v=yieldValue v:=λ v=>by simp only[yieldOut,N2,te,if_false]
 simp only[hy]
 refine qH (m:=dp pos) (H:= .raise) (gd:=id) (lv:=id) (hW ?_)
 rw[iX,iX,jZ,jZ]
 refine qH (c7 h (λ v s' h'=>?_) λ aa aa x=>x)
 refine qH (m:=dp yp) (H:= .raise) (gd:=id) (lv:=id) (hW ?_)
 show Sg prog w A c (.yield v (gd false) _ _) fs s' P
 rw[hgd]
 exact PySem.W.X.s_yield prog w A c fs P s' v _ _ hfs hfg λ p=>h' p _ _ rfl
end
section
variable{prog:aK}{w:bw}{A:bn}{E:ak->ar->Prop}{s:ar}
def pU(prog:aK)(w:bw)(A:bn)(gs:d7)(s:ar)(P:End->ar->Prop):Prop:=match gs with
 | .fresh c=>Sg prog w A c (denote table c) [] s P
 | .suspended k _ c _ fs _=>Sg prog w A c (k (.send .none)) fs s P
 |_=>False
theorem Pz{a:au}{g:Nat}{gs:d7}{Q:aq ak->ar->Prop}(hh:A.handled=none)(hl:s.heap.NoLimit)(uw:A.depth < tu)(hg:s.heap.IsGen a g)(JL:s.gens[g]?=af gs)
  (h:pU prog w A.in1 gs (s.setGen g .running) (λ e s₁=>match e with
   | .ret r=>r= .ok (.ret .none)/\∀h',(∀b o,s₁.heap.get? b=af o->h'.get? b=af o)->Q none {s₁.setGen g .finished with heap:=h'}
   | .susp v gd l k c p fs=>Q (af v) (s₁.setGen g (End.susp v gd l k c p fs).genState))):aH (aE prog w) A (gL (.ref a)) Q E s:=by
 unfold gL
 have stop:∀{s₁:ar} {k:e9->ie Fin},(∀h',(∀b o,s₁.heap.get? b=af o->h'.get? b=af o)->Q none {s₁ with heap:=h'})->
   aH (aE prog w) A.in1 (Ea (.type "StopIteration") []>>=λ e=>raiseNew e>>=k) (λ f s'=>∃v,f= .done (.ret v)/\Q (af v) s') (λ e s'=>s'.TypeIs e "StopIteration"/\Q none s') s₁:=λ{s₁ k} hq=>by
  refine aj ?_
  simp only[Ea,newTuple]
  refine aj (cP ?_ (by size_fits))
  refine aj (m:=jH _ _) (bu (a:=c_) (by first|rfl|(simp only[jH]; rfl)) ?_)
  refine cP ?_ (by size_fits)
  refine aj (wpAny_raiseNew_none hh ⟨⟨_,aN _ rfl,rfl⟩,hq _ λ b o hb=>aA _ (aA _ hb)⟩)
 have wake:aH (aE prog w) A.in1 (Builtin.Generator.genWake (.ref a) (.send .none)) (λ f s'=>∃v,f= .done (.ret v)/\Q (af v) s') (λ e s'=>s'.TypeIs e "StopIteration"/\Q none s') s:=by
  unfold Builtin.Generator.genWake
  refine aj (bU (wpAny_genNumber hg (aj (wpAny_genState JL ?_))))
  cases gs with
  |running=>exact h.elim
  |finished=>exact h.elim
  |fresh c=>
   refine aj (wpAny_roomToWake hl uw ?_)
   show aH _ _ (.resume g (.send .none) [] _) _ _ s
   refine Br _ prog w JL (.inl ⟨rfl,rfl,rfl,rfl⟩) (λ Γ=>Γ.In A.in1) (λ aa q=>q) (ei h λ e s₁ z=>?_)
   intro Γ p N4
   cases e with
   |ret r=>obtain⟨rfl,z⟩:=z; exact stop (s₁:=s₁.setGen g .finished) z Γ p N4
   |susp v gd l k c p' fs=>exact⟨v,rfl,z⟩
  |suspended acr acF c₀ acX ad9 cl=>
   refine aj (wpAny_roomToWake hl uw ?_)
   show aH _ _ (.resume g (.send .none) [] _) _ _ s
   refine Br _ prog w JL (.inr ⟨acr,acF,acX,cl,rfl,rfl⟩) (λ Γ=>Γ.In A.in1) (λ aa q=>q) (ei h λ e s₁ z=>?_)
   intro Γ p N4
   cases e with
   |ret r=>obtain⟨rfl,z⟩:=z; exact stop (s₁:=s₁.setGen g .finished) z Γ p N4
   |susp v gd l k c p' fs=>exact⟨v,rfl,z⟩
 refine aj (kW (de (name:=bT "__next__") hg.typeIs slot_gen_next
  (cA slot_gen_next hg.typeIs entry_gen_next (c7 wake (λ f s' h=>?_) λ e s' h=>?_) (args_gen_next _))))
 ·obtain⟨v,rfl,h⟩:=h
  exact⟨v,rfl,aw h⟩
 ·exact aj (eO (T:="StopIteration") (b:=true) h.1 D_ (aw h.2))
end
structure JS(ct:Ct)(E:Env):Prop where
 kind:E.scope.kind= .function
 names:E.scope.names=ct.names
 glob:E.globals=dk
 blt:E.builtins=la
 cells:E.cells=[]
 WA:∀x,ct.names.lookup x≠af .cell
 vA:ct.aS.Nodup
 ro:ct.ro=false
 tb:ct.tb=false
 cq:ct.cq=false
noncomputable def Wv(A:bn)(E:Env)(G:BM)(s:ar):Fd:={A:=A,env:=E,h₀:=s.heap,gJ:=[],G₀:=G,Z:=s,ro:=false}
abbrev KG(G:BM)(h:Heap):Prop:=∀a o,G a=af o->h.get? a=af o
section
variable{P:cC}{ct:Ct}{A:bn}{E:Env}{G:BM}{s:ar}
theorem JS.noC{Q:Prop}(g:JS ct E){x:bI}{c:au}(e:E.cells.lookup x=af c):Q:=cu ((ah (·.lookup x) g.cells).symm.trans e)
theorem JS.fok(g:JS ct E)(room:mE A P.d)(i8:P.Φ G):gM P ct (Wv A E G s):=
 ⟨g.kind,g.names,g.glob,g.blt,room,i8,g.vA,g.ro.symm,λ x h=>bt h (g.WA x),λ e=>ay (g.tb.symm.trans e),λ e=>ay (g.cq.symm.trans e)⟩
abbrev NsL(E:Env)(aS:ae bI)(G:BM)(loc:ae AV)(m:bI->aq ak):Prop:=∀(i:Nat) (x:bI) (v:AV),aS[i]?=af x->loc[i]?=af v->v≠ .undef->∃u,VR G [] v u/\E.kindOf x=af .local/\m x=af u
def NZ(E:Env)(aS:ae bI)(G:BM)(loc:ae AV)(h:Heap):Prop:=∃m,h.Ns E.locals m/\NsL E aS G loc m
theorem zD{h h':Heap}{a:au}{m:bI->aq ak}(k:∀o,h.get? a=af o->h'.get? a=af o):h.Ns a m->h'.Ns a m:= .imp λ o=> .imp λ aa=> .imp λ aa=> .imp_left (k o)
theorem NZ.keep{aS:ae bI}{loc:ae AV}{h h':Heap}(k:∀o,h.get? E.locals=af o->h'.get? E.locals=af o):NZ E aS G loc h->NZ E aS G loc h':= .imp λ aa=> .imp_left (zD k)
theorem NZ.al{aS:ae bI}{loc:ae AV}{h:Heap}(n:NZ E aS G loc h):∃o,h.get? E.locals=af o:=n.elim λ aa n=>n.1.imp λ aa h=>h.elim λ aa h=>h.elim λ aa h=>h.1
theorem Og{h:Heap}{a:au}{m m':bI->aq ak}(x:h.Ns a m)(y:h.Ns a m'):m=m':=by
 obtain⟨o,es,ep,ho,hd,hk,hf⟩:=x
 obtain⟨o',Be,JK,ET,Ls,hk',hf'⟩:=y
 cases ho.symm.trans ET
 cases hd.symm.trans Ls
 exact funext λ x=>(hf x).symm.trans (hf' x)
theorem JS.rf(g:JS ct E){loc:ae AV}(kg:KG G s.heap)(ns:NZ E ct.aS G loc s.heap)(lG:G E.locals=none):RF (Wv A E G s) ct.aS G [] ⟨loc,[]⟩ s:=
 ⟨⟨kg,rfl,λ i a ao h=>cu h,gA,λ a h=>(nomatch h)⟩,ns.imp λ aa=>eG,λ i x v e e' n=>ns.elim λ m z=>(z.2 i x v e e' n).imp λ u q=>⟨q.1, .inl ⟨q.2.1,m,z.1,q.2.2⟩⟩,lG,(λ h=>nomatch h),λ x c e=>g.noC e,λ x y c e=>g.noC e,
  λ a o aa aa e=>e,λ a o e=>⟨o,e⟩,Ext.refl _,(λ a h=>nomatch h),dG.refl _,λ a o e=> .inl e,GZ.of ⟨rfl,rfl,rfl⟩⟩
theorem JS.back(g:JS ct E){G':BM}{b7:St}{s':ar}(R:RF (Wv A E G s) ct.aS G' [] b7 s'):NZ E ct.aS G' b7.loc s'.heap:=
 R.ns.imp λ m hm=>⟨hm,λ i x v e e' n=>(R.loc i x v e e' n).imp λ u q=>⟨q.1,q.2.elim (λ a=>⟨a.1,a.2.elim λ m' z=>(congrFun (Og hm z.1) x).trans z.2⟩) λ a=>a.2.elim λ c z=>g.noC z.1⟩⟩
theorem JS.free(g:JS ct E){d:au}(h:d≠E.locals):(Wv A E G s).free d:=⟨h,λ aa y aa q=>g.noC q⟩
end
theorem X.RW{α:Type}{J:aC}{M:ir}{A:bn}{t:ie α}{Q:α->ar->Prop}{s:ar}(hj:J=false)(h:cL J M A t Q s):aH M A t Q (λ aa aa=>False) s:=X.back (hj▸h)
section
variable{P:cC}{ct:Ct}{F:Fd}{G:BM}{s:ar}{l l':ae AV}
theorem SE.O9(e:SE P ct)(hj:P.j=false)(c:e.ch=true)(O:gM P ct F)(R:RF F ct.aS G [] ⟨l,[]⟩ s){V:AV}(run:∀K:AV->St->Prop,K V ⟨l',[]⟩->e.run ⟨l,[]⟩ K){Q:ak->ar->Prop}
  (k:∀G' v s',dG G G'->RF F ct.aS G' [] ⟨l',[]⟩ s'->VR G' [] V v->Q v s'):aH (aE P.prog P.w) F.A (eval e.bA F.env) Q dw s:=
 c7 (X.RW hj (e.ok c F G [] _ s (λ v σ=>v=V/\σ=⟨l',[]⟩) O R (run _ ⟨rfl,rfl⟩))) (λ v s' z=>z.u λ G' ρ' av b7 le aa R va h=>have R:RF F ct.aS G' ρ' ⟨l',[]⟩ s':=h.2▸R
  have er:ρ'=[]:=cZ.mp R.rm.len; k G' v s' le (er▸R) (er▸h.1▸va)) λ aa aa z=>z
theorem SX.O9(e:SX P ct)(hj:P.j=false)(c:e.ch=true)(O:gM P ct F)(R:RF F ct.aS G [] ⟨l,[]⟩ s)(run:∀K:Fl->St->Prop,K .d8 ⟨l',[]⟩->e.run ⟨l,[]⟩ K){Q:my->ar->Prop}
  (k:∀G' s',dG G G'->RF F ct.aS G' [] ⟨l',[]⟩ s'->Q .next s'):aH (aE P.prog P.w) F.A (exec e.bA F.env) Q dw s:=
 c7 (X.RW hj (e.ok c F G [] _ s (λ v σ=>v= .d8/\σ=⟨l',[]⟩) O R (run _ ⟨rfl,rfl⟩))) (λ f s' z=>z.u λ G' ρ' av b7 le aa R fr h=>have R:RF F ct.aS G' ρ' ⟨l',[]⟩ s':=h.2▸R
  have er:ρ'=[]:=cZ.mp R.rm.len; (show f= .next from(h.1▸fr:FR G' ρ' .d8 f)).symm▸k G' s' le (er▸R)) λ aa aa z=>z
end
structure GQ(P:cC)(ct:Ct) where
 tp:c9
 yp:c9
 xp:c9
 fp:c9
 s0:SX P ct
 e1:SE P ct
 e:SE P ct
 a:AV
 b:AV
 c:AV
 cnt:Nat
 V:Nat->AV
structure GP(P:cC)(ct:Ct) extends GQ P ct where
 A:bn
 E:Env
noncomputable abbrev fnK:my->ie Fin:=λ f=> .pure (.done (.ret (match f with | .ret v=>v|_=> .none)))
noncomputable abbrev fnH(env:Env):ak->ie Fin:=λ e=>(leaving env e).wrap (λ aa=> .raise e) .raise id id
abbrev LX(env:Env)(body:ae f0)(p:c9):ae Frame:=[.ret (Y_ env (λ f=>match f with | .next=>(execs [] env).wrap fnK (fnH env) id id|f=>fnK f) (fnH env) id id) none false [] (.func body env) p []]
noncomputable def R0(s0:f0)(x:bI)(tp:c9)(e1 e:aB)(yp xp fp:c9):ae f0:=[s0, .For (.Name x tp) e1 [.Expr (.Yield (af e) yp) xp] [] fp]
namespace GQ
abbrev x{P:cC}{ct:Ct}(_:GQ P ct):bI:=He ct 3
variable{P:cC}{ct:Ct}(g:GQ P ct)
noncomputable def yl:ae f0:=[.Expr (.Yield (af g.e.bA) g.yp) g.xp]
def body:ae f0:=R0 g.s0.bA g.x g.tp g.e1.bA g.e.bA g.yp g.xp g.fp
noncomputable def lo(v:AV):ae AV:=[g.a,g.b,g.c,v]
structure Ok:Prop where
 hj:P.j=false
 c0:g.s0.ch=true
 c1:g.e1.ch=true
 ce:g.e.ch=true
 ct3:o9 ct 3 g.x=true
 hs:∀env y,ef g.e1.bA env y=pure y
 N3:Builtin.Range.small 0 g.cnt 1=true
 Zp:∀K:Fl->St->Prop,K .d8 ⟨g.lo .undef,[]⟩->g.s0.run ⟨[g.a,g.b, .undef, .undef],[]⟩ K
 Zq:∀K:AV->St->Prop,K (.j_ 0 g.cnt 1) ⟨g.lo .undef,[]⟩->g.e1.run ⟨g.lo .undef,[]⟩ K
 run:∀i:Nat,i < g.cnt->∀K:AV->St->Prop,K (g.V i) ⟨g.lo (.int i),[]⟩->g.e.run ⟨g.lo (.int i),[]⟩ K
end GQ
namespace GP
variable{P:cC}{ct:Ct}(g:GP P ct)
def lc(I:au):vL:= .forLoop (.Name g.x g.tp) (.ref I) g.yl [] g.E
def fc:vL:= .func g.body g.E
def lf(p:c9):ae Frame:=LX g.E g.body p
structure Ok:Prop extends GQ.Ok g.toGQ where
 fr:JS ct g.E
 SK:mE (g.A.over g.fc []) P.d
 room:∀I p,mE (g.A.over (g.lc I) (g.lf p)) P.d
 N2:g.E.scope.isCoroutine=false
structure Rest(G:BM)(I:au)(i:Nat)(pv:AV)(h:Heap):Prop where
 ns:NZ g.E ct.aS G (g.lo pv) h
 lG:G g.E.locals=none
 iG:G I=none
 it:A4 h I i ((g.cnt:Int) - i) 1
inductive Turn(V:AV)(G:BM)(s:ar)(I:au)(i:Nat)(q:c9)(en:End)(s':ar):Prop
 |mk (v:ak) (l:ae ak) (k:Resume->ie Fin) (p:c9) (G':BM) (e0:en= .susp v false l k (g.lc I) p (g.lf q)) (hk:k (.send .none)= .pure (.again (g.lc I))) (le:dG G G') (kg:KG G' s'.heap) (va:VR G' [] V v)
  (r:g.Rest G' I (i+1) (.int i) s'.heap) (kp:∀b o,b≠g.E.locals->b≠I->s.heap.get? b=af o->s'.heap.get? b=af o) (nw:∀a o,G' a=af o->G a=af o\/s.heap.get? a=none) (gz:GZ s s')
end GP
section
variable{P:cC}{ct:Ct}{g:GP P ct}{G:BM}{s s₁:ar}{I:au}{i:Nat}{q:c9}{pv:AV}
theorem IG(k:g.Ok)(i8:P.Φ G)(hi:i < g.cnt)(kg:KG G s₁.heap)(r:g.Rest G I (i+1) pv s₁.heap)(iL:I≠g.E.locals)(kp:∀b o,b≠I->s.heap.get? b=af o->s₁.heap.get? b=af o)(zz:GZ s s₁){t:kq}:
  aH (aE P.prog P.w) (g.A.over (g.lc I) (g.lf q)) (assign (.Name g.x g.tp) g.E (.int i t)) (λ aa fW=>Sg P.prog P.w g.A (g.lc I) ((execs g.yl g.E).wrap (Ui (g.lc I)) (Uh g.E) id id) (g.lf q) fW (g.Turn (g.V i) G s I i q)) dw s₁:=by
 have O:=k.fr.fok (s:=s₁) (k.room I q) i8
 refine c7 ((xn (P:=P) 3 g.tp).ok k.ct3 _ G [] _ _ (.int i) _ (λ σ=>σ=⟨g.lo (.int i),[]⟩) O (k.fr.rf kg r.ns r.lG) VR.mF rfl) (λ aa bp z=>z.elim λ σ z=>?_) λ aa aa z=>z
 cases z.2
 refine AI (Nh rfl rfl rfl k.N2 (by unfold A7; rw[k.fr.kind]; rfl) ?_)
 exact g.e.O9 k.hj k.ce O z.1 (k.run i hi) λ G' v fW le R va p l k' hk=>have keep:∀d o,d≠g.E.locals->s₁.heap.get? d=af o->fW.heap.get? d=af o:=λ d o hd=>R.keep d o (λ z=>nomatch z) (k.fr.free hd)
  ⟨v,l,k',p,G',rfl,hk,le,R.rm.kg,va,⟨k.fr.back R,R.lG,none_of λ o q=>(R.Bh I o q).elim (dh r.iG) λ q=>dh q r.it,keep I _ iL r.it⟩,λ d o n1 n2 q=>keep d o n1 (kp d o n2 q),
  λ d o q=>(R.Bh d o q).imp_right λ q=>none_of λ o' e=>(d5 (d=I)).elim (λ w=>dh q (w▸r.it)) λ w=>dh q (kp d o' w e),zz.trans R.gz⟩
theorem Cj(k:g.Ok)(i8:P.Φ G)(hi:i < g.cnt)(kg:KG G s.heap)(r:g.Rest G I i pv s.heap)(iL:I≠g.E.locals):Sg P.prog P.w g.A (g.lc I) (denote table (g.lc I)) (g.lf q) s (g.Turn (g.V i) G s I i q):=
 xf (JC r.it (Int.sub_pos_of_lt (mV.mpr hi)) λ h' it sb=>aw<|
  have kp:∀b o,b≠I->s.heap.get? b=af o->h'.get? b=af o:=sb.extBut
  IG (s₁:={s with heap:=h',toks:=s.toks+1}) k i8 hi (λ a o q=>kp a o (λ z=>dh r.iG (z▸q)) (kg a o q)) ⟨r.ns.keep (λ o=>kp _ o iL.symm),r.lG,r.iG,(show((i+1:Nat):Int)=i+1 from rfl)▸Int.sub_sub ..▸it⟩ iL kp (GZ.of ⟨rfl,rfl,rfl⟩))
end
section
variable{prog:aK}{w:bw}{A:bn}{fs:ae Frame}{s:ar}{env:Env}{Pe:End->ar->Prop}
theorem Q1{body:ae f0}(h:Sg prog w A (.func body env) ((execs body env).wrap fnK (fnH env) id id) fs s Pe):Sg prog w A (.func body env) (denote table (.func body env)) fs s Pe:=by
 show Sg prog w A _ (.point [] λ aa=>((execs body env).onRaise (leaving env))>>=_) fs s Pe
 refine qH (m:=point) (H:= .raise) (gd:=id) (lv:=λ aa=>[]) (A_ ?_)
 rw[Jy,iX,jZ]
 rw[Sem.wrap_congr (execs body env) _ _ (K':=fnK) (H':=fnH env) (λ f=>by cases f<;>rfl) (λ e=>by rw[vN,jZ]; rfl)]
 exact h
theorem PA{t:aB}{I:au}{b body:ae f0}{p:c9}{i left:Int}(hh:(A.over (.forLoop t (.ref I) b [] env) (LX env body p)).handled=none)(it:A4 s.heap I i left 1)(hl:left<=0):
  Sg prog w A (.forLoop t (.ref I) b [] env) (denote table (.forLoop t (.ref I) b [] env)) (LX env body p) s (λ en s'=>en= .ret (.ok (.ret .none))/\(∀d o,d≠I->s.heap.get? d=af o->s'.heap.get? d=af o)/\GZ s s'):=
 xf (wpAny_pyNext_range_end hh it hl λ h' eb=>PySem.W.X.s_pop prog w A _ _ _ _ (.ok .next) _ rfl _ _ _ _ _ _ _ (PySem.W.X.s_end prog w A _ _ _ (.ok (.ret .none)) _ rfl ⟨rfl,λ d o n q=>eb d o n q,GZ.of ⟨rfl,rfl,rfl⟩⟩))
end
namespace GP
variable{P:cC}{ct:Ct}(g:GP P ct)
inductive RD(G:BM)(s:ar)(en:End)(s':ar):Prop
 |mk (I:au) (q:c9) (v:ak) (l:ae ak) (k:Resume->ie Fin) (p:c9) (G':BM) (e0:en= .susp v false l k (g.lc I) p (g.lf q)) (hk:k (.send .none)= .pure (.again (g.lc I))) (le:dG G G') (kg:KG G' s'.heap) (va:VR G' [] (g.V 0) v)
  (r:g.Rest G' I 1 (.int (0:Nat)) s'.heap) (iL:I≠g.E.locals) (dead:s.heap.get? I=none) (kp:∀b o,b≠g.E.locals->s.heap.get? b=af o->s'.heap.get? b=af o) (nw:∀a o,G' a=af o->G a=af o\/s.heap.get? a=none) (gz:GZ s s')
end GP
section
variable{P:cC}{ct:Ct}{g:GP P ct}{G jp:BM}{s bp:ar}{q:c9}
theorem Fo(n:Nat):Builtin.Range.rangeSize 0 (n:Int) 1=(n:Int):=by unfold Builtin.Range.rangeSize; simp; omega
noncomputable abbrev rIt(n:Nat):Obj:={cls:=cR "range_iterator",data:=ib #[nC 0,nC (Builtin.Range.rangeSize 0 (n:Int) 1),nC 1]}
theorem EP(k:g.Ok)(i8:P.Φ G)(hc:0 < g.cnt)(R:RF (Wv (g.A.over g.fc []) g.E G s) ct.aS jp [] ⟨g.lo .undef,[]⟩ bp):Sg P.prog P.w g.A (g.lc bp.heap.objs.size) (denote table (g.lc bp.heap.objs.size)) (g.lf q) {bp with heap:=bp.heap.push (rIt g.cnt)} (g.RD G s):=by
 have dead:bp.heap.get? bp.heap.objs.size=none:=df (cF _)
 have push:∀d o,bp.heap.get? d=af o->(bp.heap.push (rIt g.cnt)).get? d=af o:=λ d o q=>aA _ q
 have keep:∀d o,d≠g.E.locals->s.heap.get? d=af o->bp.heap.get? d=af o:=λ d o hd q=>R.keep d o (λ z=>nomatch z) (k.fr.free hd) q
 have ns:=k.fr.back R
 have r:g.Rest jp bp.heap.objs.size 0 .undef (bp.heap.push (rIt g.cnt)):=⟨ns.keep (push _),R.lG,R.rm.yt dead,(aN _ rfl).trans (ah (λ n=>af ({cls:=cR "range_iterator",data:=ib #[nC 0,nC n,nC 1]}:Obj)) ((Fo g.cnt).trans (Int.sub_zero _).symm))⟩
 exact ei (Cj (q:=q) k (P.mono _ _ R.Cp i8) hc (λ d o q=>push d o (R.rm.kg d o q)) r λ z=>ns.al.elim λ aa e=>dh dead (z▸e)) λ en s' z=>by
  rcases z with⟨v,l,k',p,G',e0,hk,le,kg,va,r,kp,nw,gz⟩
  exact⟨_,q,v,l,k',p,G',e0,hk,R.Cp.trans le,kg,va,r,λ z=>ns.al.elim λ aa e=>dh dead (z▸e),R.dead dead,λ d o n q=>kp d o n (λ w=>dh (R.dead dead) (w▸q)) (push d o (keep d o n q)),
   λ d o q=>(nw d o q).elim (R.Bh d o) λ q=> .inr (R.dead (none_of λ o e=>dh q (push d o e))),R.gz.trans ((GZ.of ⟨rfl,rfl,rfl⟩).trans gz)⟩
theorem IE(k:g.Ok)(i8:P.Φ G)(hc:0 < g.cnt)(kg:KG G s.heap)(ns:NZ g.E ct.aS G [g.a,g.b, .undef, .undef] s.heap)(lG:G g.E.locals=none):Sg P.prog P.w g.A g.fc (denote table g.fc) [] s (g.RD G s):=by
 have O:gM P ct (Wv (g.A.over g.fc []) g.E G s):=k.fr.fok k.SK i8
 exact Q1 (AI (qH (g.s0.O9 k.hj k.c0 O (k.fr.rf kg ns lG) k.Zp λ dW s₁ aeJ dS=>AI (VP (k.hs _) (g.e1.O9 k.hj k.c1 O dS k.Zq λ jp v bp aeK gN va=>
  aD va λ r h=>h.elim λ aa h=>h.elim λ aa h=>h.elim λ aa h=>h.1▸wpAny_pyIter_range (gN.rm.kg _ _ h.2) k.N3 λ p=>EP k i8 hc gN)))))
end
section
variable{F:Fd}{ct:Ct}{G G':BM}{ρ:ae au}{σ:St}{s s':ar}
theorem RF.No(R:RF F ct.aS G ρ σ s){Ex:au->Prop}(g:dG G G')(M:RM G' ρ σ.mem s'.heap)(gn:∀a o,G' a=af o->G a=af o\/s.heap.get? a=none)(kp:∀a o,¬Ex a->s.heap.get? a=af o->s'.heap.get? a=af o)
  (ex:∀a,Ex a->a≠F.env.locals/\(∀x,F.env.cells.lookup x≠af a)/\F.h₀.get? a=none) (z:GZ F.Z s'):RF F ct.aS G' ρ σ s':=
 have kL:∀o,s.heap.get? F.env.locals=af o->s'.heap.get? F.env.locals=af o:=λ o=>kp _ o λ q=>(ex _ q).1 rfl
 have kc:∀y c o,F.env.cells.lookup y=af c->s.heap.get? c=af o->s'.heap.get? c=af o:=λ y c o e=>kp c o λ w=>(ex _ w).2.1 y e
 have Cq:∀a,G a=none->(∃o,s.heap.get? a=af o)->G' a=none:=λ a n y=>none_of λ o q=>(gn _ _ q).elim (dh n) λ q=>y.elim λ aa=>dh q
 {rm:=M,ns:=R.ns.imp λ aa=>zD kL,loc:=λ i x' v e e' n=>(R.loc i x' v e e' n).imp λ aa=> .imp (VR.up g (Ext.refl _) v) (At.keeps · kL kc),lG:=Cq _ R.lG R.lo,Bi:=R.Bi
  cell:=λ x' c e=>have h:=R.cell x' c e; ⟨h.1,h.2.1,h.2.2.1.imp λ aa=> .imp λ o=> .imp_left (kc x' c o e),λ k=>Cq c (h.2.2.2 k) (R.co e)⟩,p6:=R.p6
  keep:=λ a o n f e=>kp a o (λ w=>dh (ex a w).2.2 e) (R.keep a o n f e),live:=λ a o e=>(R.live a o e).imp λ o'=>kp a o' λ w=>dh (ex a w).2.2 e,ext:=R.ext,nw:=R.nw,Cp:=R.Cp.trans g
  Bh:=λ a o e=>(gn a o e).elim (R.Bh a o) λ q=> .inr (R.dead q),gz:=z}
noncomputable def BM.or(G G':BM):BM:=λ a=>match G a with
 |some o=>af o
 |none=>G' a
theorem BM.Vg(G G':BM):dG G (G.or G'):=λ a o e=>by unfold BM.or; rw[e]
theorem BM.or_none{a:au}(e:G a=none):G.or G' a=G' a:=by unfold BM.or; rw[e]
theorem BM.MA{a:au}{o:Obj}(h:(G.or G') a=af o):G a=af o\/(G a=none/\G' a=af o):=by
 rcases e:G a with _|o'
 ·exact .inr ⟨rfl,(BM.or_none e).symm.trans h⟩
 ·exact .inl ((BM.Vg G G' a o' e).symm.trans h)
theorem BM.acQ{h:Heap}(k:KG G h)(k':KG G' h):dG G' (G.or G'):=λ a o e=>by
 rcases q:G a with _|o'
 ·exact(BM.or_none q).trans e
 ·exact(BM.Vg G G' a o' q).trans ((k a o' q).symm.trans (k' a o e))
structure aa2(F:Fd)(ct:Ct)(G G':BM)(ρ:ae au)(σ:St)(s s':ar):Prop where
 R:RF F ct.aS (G.or G') ρ σ s'
 l:dG G (G.or G')
 r:dG G' (G.or G')
 Nn:∀a o,s.heap.get? a=af o->G a=none->(G.or G') a=none
theorem RF.gen(R:RF F ct.aS G ρ σ s){Gg:BM}{Ex:au->Prop}(le:dG Gg G)(kg':KG G' s'.heap)(nw:∀a o,G' a=af o->Gg a=af o\/s.heap.get? a=none)(kp:∀a o,¬Ex a->s.heap.get? a=af o->s'.heap.get? a=af o)
  (ex:∀a,Ex a->Loose F G ρ s a) (z:GZ F.Z s'):aa2 F ct G G' ρ σ s s':=
 have kg:KG G s'.heap:=λ a o e=>kp a o (λ w=>dh (ex a w).G e) (R.rm.kg a o e)
 have l:=BM.Vg G G'
 have Nn:∀a o,s.heap.get? a=af o->G a=none->(G.or G') a=none:=λ a o e n=>none_of λ o' q=>(BM.MA q).elim (dh n) λ q=>(nw a o' q.2).elim (λ q=>dh n (le a o' q)) λ q=>dh q e
 ⟨R.No (Ex:=Ex) l ⟨λ a o e=>(BM.MA e).elim (kg a o) λ q=>kg' a o q.2,R.rm.len,λ i a ao hi e=>(R.rm.obj i a ao hi e).imp λ o=> .imp (kp a o λ w=>(ex a w).ρ (im hi)) (OR.up l (Ext.refl _)),R.rm.nd,λ a ha=>(R.rm.some_of ha).elim λ o ho=>Nn a o ho (R.rm.fr a ha)⟩
  (λ a o e=>(BM.MA e).elim .inl λ q=>(nw a o q.2).imp_left (le a o)) kp (λ a w=>have e:=ex a w; ⟨e.L,e.c,e.h⟩) z,l,BM.acQ kg kg',Nn⟩
end
inductive WS(V:AV)(G:BM)(Ex:au->Prop)(R:d7->BM->(au->Prop)->Heap->Prop)(s:ar)(e:End)(s':ar):Prop
 |mk (v:ak) (l:ae ak) (k:Resume->ie Fin) (c:vL) (p:c9) (fs:ae Frame) (G':BM) (Oc:au->Prop) (e0:e= .susp v false l k c p fs) (bare:e.genState.bare=true) (le:dG G G') (kg:KG G' s'.heap) (va:VR G' [] V v) (nw:∀a o,G' a=af o->G a=af o\/s.heap.get? a=none)
  (kp:∀b o,¬Ex b->s.heap.get? b=af o->s'.heap.get? b=af o) (ex':∀b,Oc b->(Ex b\/s.heap.get? b=none)/\G' b=none/\∃o,s'.heap.get? b=af o) (gz:GZ s s') (r:R e.genState G' Oc s'.heap)
structure WM(Ex:au->Prop)(s:ar)(e:End)(s':ar):Prop where
 e:e= .ret (.ok (.ret .none))
 kp:∀b o,¬Ex b->s.heap.get? b=af o->s'.heap.get? b=af o
 gz:GZ s s'
noncomputable def q8(prog:aK)(w:bw)(A:bn):ae AV->d7->BM->(au->Prop)->Heap->Prop
 |[],gs,G,Ex,h₀=>∀s:ar,KG G s.heap->(∀b,Ex b->s.heap.get? b=h₀.get? b)->pU prog w A gs s (WM Ex s)
 |V::r,gs,G,Ex,h₀=>∀s:ar,KG G s.heap->(∀b,Ex b->s.heap.get? b=h₀.get? b)->pU prog w A gs s (WS V G Ex (q8 prog w A r) s)
section
variable{P:cC}{ct:Ct}{g:GP P ct}
noncomputable def TY(V:Nat->AV)(i:Nat):Nat->ae AV
 |0=>[]
 |n+1=>V i::TY V (i+1) n
abbrev GP.ex(g:GP P ct)(I:au):au->Prop:=λ d=>d=g.E.locals\/d=I
theorem GP.Rest.al{G:BM}{I:au}{i:Nat}{pv:AV}{h:Heap}(r:g.Rest G I i pv h){d:au}(hd:g.ex I d):G d=none/\∃o,h.get? d=af o:=hd.elim (λ e=>e▸⟨r.lG,r.ns.al⟩) λ e=>e▸⟨r.iG,_,r.it⟩
theorem GP.Rest.same{G:BM}{I:au}{i:Nat}{pv:AV}{h h':Heap}(r:g.Rest G I i pv h)(e:∀b,g.ex I b->h'.get? b=h.get? b):g.Rest G I i pv h':=⟨r.ns.keep λ o q=>(e _ (.inl rfl)).trans q,r.lG,r.iG,(e I (.inr rfl)).trans r.it⟩
theorem Ci(k:g.Ok){I:au}{q:c9}(iL:I≠g.E.locals):∀(n i:Nat) (h₀:Heap) (G:BM) (pv:AV) (l:ae ak) (k':Resume->ie Fin) (p:c9) (cl:aC),i+n=g.cnt->P.Φ G->k' (.send .none)= .pure (.again (g.lc I))->g.Rest G I i pv h₀->
   q8 P.prog P.w g.A (TY g.V i n) (.suspended k' l (g.lc I) p (g.lf q) cl) G (g.ex I) h₀
 |0,i,h₀,G,pv,l,k',p,cl=>λ hn i8 hk r s kg hE=>by
  show Sg P.prog P.w g.A _ (k' (.send .none)) _ s _
  rw[hk]
  exact rG P.prog P.w g.A _ _ _ s _ rfl (ei (PA (k.room I q).2.2 (r.same hE).it (Int.sub_nonpos_of_le (pL.mpr (aU hn.symm)))) λ en s' z=>⟨z.1,λ d o hd w=>z.2.1 d o (λ z=>hd (.inr z)) w,z.2.2⟩)
 |n+1,i,h₀,G,pv,l,k',p,cl=>λ hn i8 hk r s kg hE=>by
  show Sg P.prog P.w g.A _ (k' (.send .none)) _ s _
  rw[hk]
  refine rG P.prog P.w g.A _ _ _ s _ rfl (ei (Cj k i8 (hn▸DR (uP n)) kg (r.same hE) iL) λ en s' z=>?_)
  rcases z with⟨v,l',k'',p',G',rfl,e2,le,kg,va,r,kp,nw,gz⟩
  exact⟨v,l',k'',_,p',_,G',g.ex I,rfl,rfl,le,kg,va,nw,λ d o hd w=>kp d o (λ z=>hd (.inl z)) (λ z=>hd (.inr z)) w,λ d hd=>⟨.inl hd,r.al hd⟩,gz,Ci k iL n (i+1) s'.heap G' (.int i) l' k'' p' _ ((oE i n).trans hn) (P.mono _ _ le i8) e2 r⟩
theorem IF(k:g.Ok){n:Nat}(hn:g.cnt=n+1){G:BM}(i8:P.Φ G){h₀:Heap}(ns:NZ g.E ct.aS G [g.a,g.b, .undef, .undef] h₀)(lG:G g.E.locals=none):q8 P.prog P.w g.A (TY g.V 0 (n+1)) (.fresh g.fc) G (λ d=>d=g.E.locals) h₀:=λ s kg hE=>by
 refine ei (IE k i8 (hn▸uP n) kg (ns.keep λ o q=>(hE _ rfl).trans q) lG) λ en s' z=>?_
 rcases z with⟨I,q,v,l,k',p,G',rfl,e2,le,kg,va,r,iL,dead,kp,nw,gz⟩
 exact⟨v,l,k',_,p,_,G',g.ex I,rfl,rfl,le,kg,va,nw,kp,λ d hd=>⟨hd.imp_right λ(e:d=I)=>e▸dead,r.al hd⟩,gz,Ci k iL n 1 s'.heap G' (.int (0:Nat)) l k' p _ ((Nat.add_comm 1 n).trans hn.symm) (P.mono _ _ le i8) e2 r⟩
end
theorem q8.abp{prog:aK}{w:bw}{A:bn}{rest:ae AV}{gs:d7}{G:BM}{Ex:au->Prop}{h₀ bH:Heap}(e:∀b,Ex b->bH.get? b=h₀.get? b)(H:q8 prog w A rest gs G Ex h₀):q8 prog w A rest gs G Ex bH:=by
 rcases rest with _|⟨V,r⟩
 ·exact λ s kg hE=>H s kg λ b hb=>(hE b hb).trans (e b hb)
 ·exact λ s kg hE=>H s kg λ b hb=>(hE b hb).trans (e b hb)
theorem Lm{Z s s₁:ar}{g:Nat}{gs x y:d7}(z:GZ Z s)(hz:Z.gens[g]?=none)(hg:s.gens[g]?=af gs)(z1:GZ (s.setGen g x) s₁)(bx:x.bare=true)(bY:y.bare=true):GZ Z (s₁.setGen g y)/\(s₁.setGen g y).gens[g]?=af y:=
 have h1:(s.setGen g x).gens[g]?=af x:=setGen_self hg
 have h3:(s₁.setGen g y).gens[g]?=af y:=setGen_self (z1.1.1 g x h1)
 have o1:=GenOnly.setGen s g x
 have o2:=GenOnly.setGen s₁ g y
 ⟨⟨⟨λ i v e=>have ni:i≠g:=λ q=>dh hz (q▸e); (o2.2 i ni).trans (z1.1.1 i v ((o1.2 i ni).trans (z.1.1 i v e))),λ hb=>(GenOnlyQ.of o2 h3 bY).bare (z1.1.2 ((GenOnlyQ.of o1 h1 bx).bare (z.1.2 hb)))⟩,Eq.trans (show s₁.os=s.os from z1.2) z.2⟩,h3⟩
theorem pU.mono{prog:aK}{w:bw}{A:bn}{gs:d7}{s:ar}{P P':End->ar->Prop}(h:pU prog w A gs s P)(k:∀e s',P e s'->P' e s'):pU prog w A gs s P':=by
 rcases gs with _|_|_|_
 case fresh=>exact ei h k
 case suspended=>exact ei h k
 all_goals exact h.elim
section
variable{F:Fd}{ct:Ct}{G Gg:BM}{ρ:ae au}{σ:St}{s s₁:ar}{a:au}{g:Nat}{gs:d7}{Ex:au->Prop}{V:AV}{Rl:d7->BM->(au->Prop)->Heap->Prop}{en:End}
theorem vU{h h':Heap}(k:∀o,h.get? a=af o->h'.get? a=af o):h.IsGen a g->h'.IsGen a g:= .imp λ o=> .imp λ aa=> .imp λ aa=> .imp_left (k o)
structure Od(F:Fd)(ct:Ct)(G:BM)(ρ:ae au)(σ:St)(s:ar)(a:au)(g:Nat)(gs:d7)(Gg:BM)(Ex:au->Prop):Prop where
 R:RF F ct.aS G ρ σ s
 ig:s.heap.IsGen a g
 La:Loose F G ρ s a
 nE:¬Ex a
 JL:s.gens[g]?=af gs
 le:dG Gg G
 LE:∀b,Ex b->Loose F G ρ s b
theorem Od.stop(x:Od F ct G ρ σ s a g gs Gg Ex)(hz:F.Z.gens[g]?=none)(z:WM Ex (s.setGen g .running) en s₁){h':Heap}(keep:∀b o,s₁.heap.get? b=af o->h'.get? b=af o):RF F ct.aS G ρ σ {s₁.setGen g .finished with heap:=h'}:=
 have kp:∀d o,¬Ex d->s.heap.get? d=af o->h'.get? d=af o:=λ d o n q=>keep d o (z.kp d o n q)
 x.R.No (Ex:=Ex) (dG.refl _) ⟨λ d o q=>kp d o (λ w=>dh (x.LE d w).G q) (x.R.rm.kg d o q),x.R.rm.len,λ i d ao hi q=>(x.R.rm.obj i d ao hi q).imp λ o=> .imp_left (kp d o λ w=>(x.LE d w).ρ (im hi)),x.R.rm.nd,x.R.rm.fr⟩ (λ aa aa q=> .inl q) kp
  (λ d w=>have l:=x.LE d w; ⟨l.L,l.c,l.h⟩) (Lm (y:= .finished) x.R.gz hz x.JL z.gz rfl rfl).1
inductive aa1(F:Fd)(ct:Ct)(G:BM)(ρ:ae au)(σ:St)(a:au)(g:Nat)(V:AV)(Rl:d7->BM->(au->Prop)->Heap->Prop)(en:End)(s₁:ar):Prop
 |mk (v:ak) (l:ae ak) (k:Resume->ie Fin) (c:vL) (p:c9) (fs:ae Frame) (gs:d7) (dW G':BM) (Oc:au->Prop) (e0:en= .susp v false l k c p fs) (e1:gs=(End.susp v false l k c p fs).genState) (at_:Od F ct dW ρ σ (s₁.setGen g gs) a g gs G' Oc) (le:dG G dW) (va:VR dW ρ V v) (r:Rl gs G' Oc s₁.heap)
theorem Od.mid(x:Od F ct G ρ σ s a g gs Gg Ex)(hz:F.Z.gens[g]?=none)(z:WS V Gg Ex Rl (s.setGen g .running) en s₁):aa1 F ct G ρ σ a g V Rl en s₁:=by
 rcases z with⟨v,l,k',c,p,fs,G',Oc,e0,bare,z1,kg',vV,nw,kp,ex',zz,r⟩
 have gz:=Lm (y:=en.genState) x.R.gz hz x.JL zz rfl bare
 have w:=x.R.gen (s':=s₁.setGen g en.genState) (Ex:=Ex) x.le kg' nw kp x.LE gz.1
 exact x.La.al.elim λ oa Sl=>⟨v,l,k',c,p,fs,_,_,G',Oc,e0,ah End.genState e0,⟨w.R,vU (λ o=>kp a o x.nE) x.ig,⟨x.La.ρ,w.Nn a oa Sl x.La.G,x.La.h,x.La.L,x.La.c,oa,kp a oa x.nE Sl⟩,
  λ q=>(ex' a q).1.elim x.nE λ q=>dh q Sl,gz.2,w.r,λ d q=>have y:=ex' d q; y.1.elim (λ q=>have L:=x.LE d q; L.al.elim λ od hod=>⟨L.ρ,w.Nn d od hod L.G,L.h,L.L,L.c,y.2.2⟩)
   λ q=>have L:=x.R.loose (s':=s₁.setGen g en.genState) q y.2.2; ⟨L.ρ,(BM.or_none L.G).trans y.2.1,L.h,L.L,L.c,y.2.2⟩⟩,w.l,vV.up w.r ⟨ρ,rfl⟩,r⟩
theorem Od.over(x:Od F ct G ρ σ s a g gs Gg Ex){G':BM}{ρ':ae au}{b7:St}(le:dG G G')(R:RF (F.now G ρ s) ct.aS G' ρ' b7 s₁):Od F ct G' ρ' b7 s₁ a g gs Gg Ex/\∀d,Ex d->s₁.heap.get? d=s.heap.get? d:=
 have y:=x.R.over x.La R
 ⟨⟨y.1,vU y.2.2 x.ig,y.2.1,x.nE,R.gz.1.1 g gs x.JL,x.le.trans le,λ d w=>(x.R.over (x.LE d w) R).2.1⟩,λ d w=>(x.LE d w).al.elim λ o e=>((x.R.over (x.LE d w) R).2.2 o e).trans e.symm⟩
end
section
variable{P:cC}{ct:Ct}
inductive WO(t:TG P ct)(b:SS P ct)(F:Fd)(G₀:BM)(gJ:ae au)(Kv:Fl->St->Prop)(a:au)(g:Nat)(n:Nat)(s:ar):Prop
 |mk (rest:ae AV) (k:Nat) (G:BM) (ρ:ae au) (σ:St) (gs:d7) (Gg:BM) (Ex:au->Prop) (g0:dG G₀ G) (x0:Ext gJ ρ) (at_:Od F ct G ρ σ s a g gs Gg Ex) (GL:q8 P.prog P.w F.A.in1 rest gs Gg Ex s.heap) (h:jq t.set b.run n (.fz k rest) σ Kv)
theorem Py{t:TG P ct}{b:SS P ct}(JJ:t.ch=true)(tn:t.lz=true)(cb:b.ch=true){F:Fd}(O:gM P ct F){G₀:BM}{gJ:ae au}{Kv:Fl->St->Prop}{a:au}{g:Nat}(hz:F.Z.gens[g]?=none)(n:Nat)(s:ar)(i:WO t b F G₀ gJ Kv a g n s):
  dP P.j (aE P.prog P.w) F.A (.forLoop t.bA (.ref a) b.bA [] F.env) (λ r s'=>match r with | .ok f=>PF F ct.aS G₀ gJ Kv f s' | .error _=>False) s:=by
 refine X.forLoop (WO t b F G₀ gJ Kv a g) (λ n s i=>?_) n i
 rcases i with⟨rest,k,G,ρ,σ,gs,Gg,Ex,g0,x0,at_,GL,h⟩
 rcases n with _|n
 ·exact h.elim
 refine at_.R.AT O λ B tp lo mg mb aa b2 b3=>X.any (Pz O.room.2.2 (b2.nolimit.keeps b3) (aT (bq _ _) (b_ O.room.1 (by decide))) at_.ig at_.JL ?_)
 have kgs:KG Gg (s.setGen g .running).heap:=λ a o q=>at_.R.rm.kg a o (at_.le a o q)
 rcases rest with _|⟨V,r⟩
 ·refine pU.mono (GL _ kgs λ aa aa=>rfl) λ e s₁ z=>?_
  cases z.e
  exact⟨rfl,λ h' keep=>PF.d8 g0 x0 (at_.stop hz z keep) h⟩
 ·refine pU.mono (GL _ kgs λ aa aa=>rfl) λ e s₁ z=>?_
  rcases at_.mid hz z with⟨v,l,k',c,p,fs,p_,dW,G',Oc,e0,e1,Gk,le,va,GL'⟩
  subst e0
  dsimp only
  rw[← e1]
  refine X.any (t.go F.A (s₁.setGen g p_) a v _ (.inl tn) (X.any (c7 (t.ok JJ (F.now dW ρ (s₁.setGen g p_)) dW ρ σ _ V v _ (O.now Gk.R) Gk.R.now va h) (λ aa bp z=>z.elim λ aI z=>?_) λ aa aa z=>z)))
  refine X.mono (b.ok cb (F.now dW ρ (s₁.setGen g p_)) dW ρ aI bp _ (O.now Gk.R) z.1 z.2) λ f fW z=>z.u λ rP k9 fl dC kJ kQ lD fr fH=>?_
  have o:=Gk.over kJ lD
  rcases fl with _|v'
  ·cases(show f= .next from fr)
   exact⟨n,jo n,r,k+1,rP,k9,dC,p_,G',Oc,g0.trans (le.trans kJ),x0.trans kQ,o.1,GL'.abp o.2,fH⟩
  ·obtain⟨u,rfl,vu⟩:=fr
   exact⟨rP,k9, .ret v',dC,g0.trans (le.trans kJ),x0.trans kQ,o.1.R,⟨u,rfl,vu⟩,fH⟩
end
section
variable{prog:aK}{w:bw}{A:bn}{s:ar}
theorem Lg{f:au}{o:Obj}{fd:dR}{body:ae f0}{vals:ae ak}{binds:ae (bI×ak)}{Q:ak->ar->Prop}(uw:A.depth < tu)(ho:s.heap.get? f=af o)(hd:o.data= .func fd)(Lz:s.heap.NoLimit)(X6:s.heap.CodeRec fd.code fd.qualname)
  (Cx:fd.body= .stmts body) (Cw:mS s fd ⟨vals,[]⟩ binds) (Uu:fd.closure=[]) (yW:∀x∈binds,fd.scope.names.lookup x.1=af .local\/(fd.scope.names.lookup x.1=af .cell/\((cellsFrom (s.heap.objs.size+1) fd.scope.names []).lookup x.1).isSome=true))
  (N2:fd.scope.isCoroutine=false) (Lx:fd.scope.isGenerator=true) (hk:fd.scope.kind= .function)
  (h:∀bp,InCallC s (eD fd s.heap.objs.size f).locals (bindL (eD fd s.heap.objs.size f).kindOf binds λ aa=>none) (eD fd s.heap.objs.size f).cells (bindC (eD fd s.heap.objs.size f).kindOf binds λ aa=>none) bp->
   Q (.ref bp.heap.objs.size) {bp with gens:=bp.gens.push (.fresh (.func body (eD fd s.heap.objs.size f))),toks:=bp.toks+1+1,heap:=bp.heap.push {cls:= .type "generator",data:= .fields #[.int bp.gens.size 0, .str fd.name bp.toks, .str fd.qualname (bp.toks+1)]}}):
  aH (aE prog w) A (call (.ref f) vals) Q dw s:=by
 refine vQ (codeAny_call_generator uw ho hd N2 Lx Cx X6 (Cw _ _ _ _ ?_))
 rw[Uu]
 refine Ed hk yW λ env he s' x=>⟨Lz.keeps x.toInCall.keep,?_⟩
 subst he
 exact h s' x
end
theorem sy:∀(l:ae (bI×dJ)) (n:Nat) (acc:ae (bI×au)),(∀x∈l,x.2≠ .cell)->cellsFrom n l acc=acc
 |[],_,_,_=>rfl
 |(x,k)::r,n,acc,h=>by
  exact(ah (λ b=>if b=true then cellsFrom (n+1) r ((x,n)::acc) else cellsFrom n r acc) (d_.mpr (h (x,k) (.head _)))).trans (sy r n acc λ y hy=>h y (.tail _ hy))
structure qS(P:cC)(f:au)(vs Vs:ae AV):Prop where
 run:∀(A:bn) (G:BM) (ρ:ae au) (mem:ae AO) (s:ar) (us:ae ak) (Q:ak->ar->Prop),mE A P.d->P.Φ G->RM G ρ mem s.heap->bJ G ρ vs us->
  (∀s' a gs L,(∀b o,s.heap.get? b=af o->s'.heap.get? b=af o)->s.heap.get? a=none->s'.heap.IsGen a s.gens.size->s'.gens[s.gens.size]?=af gs->GZ s s'->s.heap.get? L=none->(∃o,s'.heap.get? L=af o)->L≠a->
   q8 P.prog P.w A.in1 Vs gs G (λ d=>d=L) s'.heap->Q (.ref a) s')->aH (aE P.prog P.w) A (call (.ref f) us) Q dw s
section
variable{P:cC}{ct:Ct}
noncomputable abbrev GKn(P:cC):=(g:au)->(vs:ae AV)->aq {Vs:ae AV // qS P g vs Vs}
theorem Fs(t:TG P ct)(b:SS P ct)(JJ:t.ch=true)(tn:t.lz=true)(cb:b.ch=true){F:Fd}(O:gM P ct F){G₀ G:BM}{gJ ρ:ae au}{σ:St}{s s':ar}{Kv:Fl->St->Prop}{a L:au}{gs:d7}{Vs:ae AV}{N:Nat}(g:dG G₀ G)(x:Ext gJ ρ)
  (R:RF F ct.aS G ρ σ s) (keep:∀b o,s.heap.get? b=af o->s'.heap.get? b=af o) (ha:s.heap.get? a=none) (ig:s'.heap.IsGen a s.gens.size) (JL:s'.gens[s.gens.size]?=af gs) (zz:GZ s s') (hL:s.heap.get? L=none) (al:∃o,s'.heap.get? L=af o) (La:L≠a)
  (GL:q8 P.prog P.w F.A.in1 Vs gs G (λ d=>d=L) s'.heap) (h:jq t.set b.run N (.fz 0 Vs) σ Kv):aH (aE P.prog P.w) F.A (iz (.ref a)) (λ i s'=>dP P.j (aE P.prog P.w) F.A (.forLoop t.bA i b.bA [] F.env) (λ r s'=>match r with | .ok f=>PF F ct.aS G₀ gJ Kv f s' | .error _=>False) s') dw s':=
 wpAny_pyIter_gen ig (Py JJ tn cb O (none_of λ y e=>dh (Bk (cF _)) (R.gz.1.1 _ y e)) N s' ⟨Vs,0,G,ρ,σ,gs,G,λ d=>d=L,g,x,
  ⟨R.No (Ex:=λ aa=>False) (dG.refl _) (R.rm.keeps keep) (λ aa aa e=> .inl e) (λ d o aa e=>keep d o e) (λ aa w=>w.elim) (R.gz.trans zz),ig,R.loose ha (ig.imp λ o h=>h.elim λ aa h=>h.elim λ aa h=>h.1),La.symm,JL,dG.refl _,λ d w=>w▸R.loose hL al⟩,GL,h⟩)
def Zu(t:TG P ct)(f:SE P ct)(as:SL P ct)(cp:c9)(b:SS P ct)(p:c9)(gk:GKn P:=λ aa aa=>none):SX P ct where
 bA:= .For t.bA (.Call f.bA as.bA [] cp) b.bA [] p
 run:=λ σ K=>f.run σ λ fv aI=>Y8 fv λ g=>as.run aI λ vs aV=>∃Vs,qS P g vs Vs/\∃N,jq t.set b.run N (.fz 0 Vs) aV K
 ch:=isNm f.bA&&((t.ch&&t.lz)&&((f.ch&&as.ch)&&b.ch))
 ok:=λ c F G ρ σ s Kv O R h=>have hf:=wQ (aF c).1
  have c:=(aF c).2
  have ct:=aF (aF c).1
  have cf:=aF (aF c).2
  X.For (λ aa=>rfl) (zR f as hf (aF cf.1).1 (aF cf.1).2 O R h λ g dx vs jp g6 aV bp le x gN q6 w=>w.elim λ Vs w=>w.2.elim λ N w2=>X.any (w.1.run F.A jp g6 aV.mem bp vs _ O.room (gN.i8 O) gN.rm q6 λ s' a gs L keep ha ig JL zz hL al La GL=>X.any (Fs t b ct.1 ct.2 cf.2 O le x gN keep ha ig JL zz hL al La GL w2)))
 ab:=λ s=>bO (f.ab s) λ u s=>ob (tFn u) λ g=>bO (as.ab s) λ vs s=>ob (toAVs vs) λ us=>ob (gk g.1 us.1) λ Vs=>Cg t.st b.ab 12 (.fz (yQ Vs.1)) s
 cO:=λ fo s outs h σ gs=>(f.cO fo).bind h gs λ u s l h a σ ga gs=>ob.u h λ g aa h=>(ly ga g.2).symm▸(as.cO fo).bind h gs λ ts s l h vs σ Ut gs=>ob.u h λ us aa h=>ob.u h λ Vs aa h=>
  (us.2 _ Ut).symm▸(sC (b.cO fo) 12 (.fz (yQ Vs.1)) (.fz 0 Vs.1) ⟨0,Vs.1,rfl,lj Vs.1⟩ s l h σ gs).eq λ K z=>⟨Vs.1,Vs.2,12,z⟩
end
theorem bJ.close{G:BM}{ρ:ae au}{vs:ae AV}{us:ae ak}(cl:∀f,eu f vs=vs)(h:bJ G ρ vs us):bJ G [] vs us:=
 bJ.lL (ρ:=[]) (ρ':=ρ) (f:=λ i=>ρ.length+i) (λ i a e=>dh (e8 (bq _ _)) e) vs ((cl _).symm▸h)
theorem y_{A:bn}{d u:Nat}{B:bn}(h:mE A (d+1))(hd:B.depth<=A.depth+1)(hu:B.units<=A.units+4)(hh:B.handled=A.handled):mE B d:=
 ⟨by have:=h.1; omega,by have:=h.2.1; omega,hh.trans h.2.2⟩
theorem GK.push{a:bD d7}{x:d7}(b:x.bare=true):GK a (a.push x):=
 ⟨λ i y e=>(Array.getElem?_push_lt (Array.getElem?_eq_some_iff.mp e).1).trans ((e6 _).symm.trans e),λ hb y hy=>(Array.mem_push.mp hy).elim (hb y) λ e=>e▸b⟩
theorem Xh{s:ar}{fd:dR}{us:ae ak}{xs:ae bI}(h:mS s fd ⟨us,[]⟩ (xs.zip (us++[]))):mS s fd ⟨us,[]⟩ (xs.zip us):=by rw[bS] at h; exact h
section
variable{P:cC}{cg:Ct}{st:GQ P cg}{f:au}{fd:dR}{x0 x1 x2:bI}{n:Nat}
theorem qS.go(k:st.Ok)(D:JR P cg [x0,x1] [] st.body fd true)(tb:cg.aS=[x0,x1,x2,He cg 3])(WA:∀y∈cg.names,y.2≠ .cell)(ro:cg.ro=false)(hb:cg.tb=false)(cq:cg.cq=false)(hn:st.cnt=n+1){A:bn}{G:BM}{ρ:ae au}{mem:ae AO}{s:ar}{us:ae ak}{Q:ak->ar->Prop}
  (room:mE A (P.d+1)) (i8:P.Φ G) (R:RM G ρ mem s.heap) (hv:bJ G [] [st.a,st.b] us) {o:Obj} (ho:s.heap.get? f=af o) (hf:o.data= .func fd) (hK:P.K.In s.heap) (lim:s.heap.NoLimit)
  (h:∀s' a gs L,(∀b o,s.heap.get? b=af o->s'.heap.get? b=af o)->s.heap.get? a=none->s'.heap.IsGen a s.gens.size->s'.gens[s.gens.size]?=af gs->GZ s s'->s.heap.get? L=none->(∃o,s'.heap.get? L=af o)->L≠a->
   q8 P.prog P.w A.in1 (TY st.V 0 (n+1)) gs G (λ d=>d=L) s'.heap->Q (.ref a) s'):aH (aE P.prog P.w) A (call (.ref f) us) Q dw s:=by
 have Lw:([x0,x1].zip us).map (·.1)=[x0,x1]:=hF (aU hv.length.symm)
 have nc:∀{x:bI},cg.names.lookup x≠af .cell:=λ e=>WA _ (mem_of_lookup e) rfl
 have loc:∀x∈[x0,x1],cg.names.lookup x=af .local:=λ x hx=>(D.kinds x hx).resolve_right nc
 refine Lg (aT (bq _ _) (b_ room.1 (by decide))) ho hf lim (codeRec_of hK D.code) D.body (Xh (D.bind s us hK hv.length)) D.TL (λ y hy=> .inl (D.scope▸loc y.1 (Lw▸g9 hy))) D.co D.gen D.kind λ bp ic=>?_
 have ec:(eD fd s.heap.objs.size f).cells=[]:=sy _ _ _ (D.scope.symm▸WA)
 have hk:∀x,(eD fd s.heap.objs.size f).kindOf x=cg.names.lookup x:=λ x=>ah (·.lookup x) D.scope
 have dead:s.heap.get? s.heap.objs.size=none:=df (cF _)
 have lt:s.heap.objs.size < bp.heap.objs.size:=ic.toInCall.ns.elim λ aa h=>h.elim λ aa h=>h.elim λ aa h=>b9 h.1
 have sg:bp.gens=s.gens/\bp.os=s.os:=ic.done.elim λ h' q=>q.elim λ tk q=>q.1▸⟨rfl,rfl⟩
 have al:∀{x:Obj},∃o,(bp.heap.push x).get? s.heap.objs.size=af o:=ic.toInCall.ns.imp λ aa h=>h.elim λ aa h=>h.elim λ aa h=>aA _ h.1
 refine h _ _ (.fresh (.func st.body (eD fd s.heap.objs.size f))) s.heap.objs.size (λ d o q=>aA _ (ic.toInCall.keep d o q)) (df (eX lt)) ?_ ((ah (λ g=>(bp.gens.push _)[g]?) (ah Array.size sg.1.symm)).trans Array.getElem?_push_size)
  ⟨sg.1▸GK.push rfl,sg.2⟩ dead al (dO lt) (IF (g:={st with A:=A.in1,E:=eD fd s.heap.objs.size f}) {k with
   fr:=⟨D.kind,D.scope,D.glob,D.blt,ec,λ y=>nc,D.names,ro,hb,cq⟩,SK:=y_ (u:=0) room (cF _) (cF _) rfl,room:=λ I p=>y_ (u:=0) room (cF _) (cF _) rfl,N2:=D.co} hn i8
   ⟨_,zD (λ aa=>aA _) ic.toInCall.ns,λ i x v e e' n=>(Kj (aS:=cg.aS) (rest:=[x2,He cg 3]) tb hv.length hv e ((tb▸rfl:fill cg.aS [st.a,st.b]=[st.a,st.b, .undef, .undef]).symm▸e') n).imp λ u z=>
    have l:=(hk x).trans (loc x z.2.2); ⟨z.1,l,we _ l _ (Lw.symm▸(gS.mp (show([x0,x1]++[x2,He cg 3]).Nodup from(ah List.Nodup tb).mp D.names)).1) z.2.1⟩⟩ (R.yt dead))
 exact sg.1▸⟨_,_,_,aN _ rfl,rfl,rfl,rfl⟩
theorem qS.of(k:st.Ok)(H:JR P cg [x0,x1] [] st.body fd true)(ho:∃oc od Y9,P.K.lookup f=af (⟨oc,od, .func fd,Y9⟩:Obj))(tb:cg.aS=[x0,x1,x2,He cg 3])(WA:∀y∈cg.names,y.2≠ .cell)(ro:cg.ro=false)(hb:cg.tb=false)(cq:cg.cq=false)(hn:st.cnt=n+1)
  (cl:∀f,eu f [st.a,st.b]=[st.a,st.b]):qS P.up f [st.a,st.b] (TY st.V 0 (n+1)):=
 ⟨λ A G ρ mem s us Q room i8 R hv h=>R.AT (P:=P) i8 λ aa aa aa aa aa b1 b2 b3=>ho.elim λ aa k1=>k1.elim λ aa k1=>k1.elim λ aa k1=>qS.go k H tb WA ro hb cq hn room i8 R (hv.close cl) (b1.keeps b3 _ _ k1) rfl (b1.keeps b3) (b2.nolimit.keeps b3) h⟩
end
namespace X
section
variable{prog:aK}{w:bw}{J:aC}{A:bn}{R:iQ->ar->Prop}{s:ar}
theorem expr{e:aB}{env:Env}(h:cL J (aE prog w) (A.deeper env) (eval e env) (λ v s'=>R (.ok (.ret v)) s') s):dP J (aE prog w) A (.expr e env) R s:=by
 refine tree ?_
 show cL J _ (A.deeper env) (do point; PySem.ret (← (eval e env).onRaise (leaving env))) _ s
 exact cM (any (A_ (cM (raises (mono h λ v s' h'=>X.ret h')))))
theorem Iu{a:au}{o:Obj}{fd:dR}{body:aB}{vals:ae ak}{binds:ae (bI×ak)}
  (uw:A.depth < tu) (ho:s.heap.get? a=af o) (Lu:o.data= .func fd) (Lz:s.heap.NoLimit) (X6:s.heap.CodeRec fd.code fd.qualname)
  (Cx:fd.body= .expr body) (Cw:mS s fd ⟨vals,[]⟩ binds) (abV:∀x∈binds,fd.scope.names.lookup x.1=af .local) (X7:∀x∈fd.scope.names,x.2≠ .cell)
  (N2:fd.scope.isCoroutine=false) (Lx:fd.scope.isGenerator=false) (hk:fd.scope.kind= .function)
  (h:∀h',h'.Ns s.heap.objs.size (λ x=>binds.reverse.lookup x)->(∀b o,s.heap.get? b=af o->h'.get? b=af o)->
   cL J (aE prog w) (A.deeper (newEnv fd.scope s.heap.objs.size fd.globals fd.closure (fd.qualname++".<locals>.") (af a) fd.code none fd.builtins)) (eval body (newEnv fd.scope s.heap.objs.size fd.globals fd.closure (fd.qualname++".<locals>.") (af a) fd.code none fd.builtins))
    (λ v s'=>R (.ok (.ret v)) s') {s with heap:=h',toks:=s.toks+binds.length}):
  dP J (aE prog w) A (.call (.ref a) ⟨vals,[]⟩) R s:=by
 refine tree ?_
 show cL J _ A.in1 (DY (.ref a) ⟨vals,[]⟩) _ s
 unfold DY
 dsimp only
 refine cM (any (iR ho ?_))
 obtain⟨c,oc,vs,tq,hc,Ye,hdc,hq⟩:=X6
 rw[Lu]
 dsimp only
 unfold callFunction
 dsimp only
 rw[hc] at h
 rw[N2,Lx,hc,Cx]
 dsimp only
 refine cM (m:=field (.ref c) 1) (any (wpAny_field Ye hdc hq (cM (X.ret ?_))))
 refine cM (any (Cw _ _ _ _ (cM (any ?_))))
 refine wpAny_newFunctionEnv X7 abV (λ h' Sk Sm=>?_) hk
 have kk:∀b o,s.heap.get? b=af o->h'.get? b=af o:=λ b o e=>Sm.extBut b o (dO (b9 e)) (aA _ e)
 have nl:h'.NoLimit:=Lz.keeps kk
 exact cM (any (wpAny_enterFrame nl uw (X.ret ⟨rfl,rfl,expr (h h' Sk kk)⟩)))
end
end X
noncomputable def q4(a b c d:Nat):c9:=⟨a,b,c,d⟩
def vl:qJ:={posonlyargs:=[],args:=[{arg:="told",annotation:=none,pos:=q4 487 59 487 63}],vararg:=none,kwonlyargs:=[],kw_defaults:=[],kwarg:=none,defaults:=[]}
noncomputable def Gy:Ct:={names:=[("told", .local),("intervals", .free),("n", .free),("scan", .free),("data_size", .globalImplicit),("arith_writer", .globalImplicit)],aS:=["told","intervals","n","scan"]}
noncomputable def mG:qK:={kind:= .function,names:=Gy.names,isGenerator:=false,isCoroutine:=false,more:=[]}
noncomputable def uA(c1 c2 c3:au):ae (bI×au):=[("scan",c3),("n",c2),("intervals",c1)]
def oJ(G:BM)(c:au)(a:AV):Prop:=∃o v,G c=af o/\o.data= .cell (af v)/\VR G [] a v
inductive ud(body:aB)(lf:au)(iv nn sc:AV)(G:BM):Prop
 |mk (c1 c2 c3 c':au) (KP pm:ak) (oc:Obj) (vs:bD ak) (t:kq) (h1:G lf=af (kla_obj "<lambda>" m_ vl body mG (uA c1 c2 c3) pm c' KP)) (h2:G c'=af oc) (hd:oc.data= .fields vs) (hv:vs[1]?=af (.str m_ t))
  (k1:oJ G c1 iv) (k2:oJ G c2 nn) (k3:oJ G c3 sc) (N5:c1≠c2) (N6:c1≠c3) (N7:c2≠c3)
theorem oJ.up{G G':BM}(g:dG G G'){c:au}{a:AV}:oJ G c a->oJ G' c a:= .imp λ aa=> .imp λ aa=> .imp (g _ _) (.imp_right (VR.up g (Ext.refl _) _))
theorem ud.up{body:aB}{lf:au}{iv nn sc:AV}(G G':BM)(g:dG G G')(h:ud body lf iv nn sc G):ud body lf iv nn sc G':=by
 rcases h with⟨c1,c2,c3,c',KP,pm,oc,vs,t,h1,h2,hd,hv,k1,k2,k3,N5,N6,N7⟩
 exact⟨c1,c2,c3,c',KP,pm,oc,vs,t,g _ _ h1,g _ _ h2,hd,hv,k1.up g,k2.up g,k3.up g,N5,N6,N7⟩
noncomputable def JO{α β:Type}(Q:α->β->Prop):ae α->ae β->Prop
 |x::xs,v::vs=>Q x v/\JO Q xs vs
 |_,_=>True
theorem JO.at{α β:Type}{Q:α->β->Prop}:∀{xs:ae α} {vs:ae β} {i:Nat} {x:α} {v:β},JO Q xs vs->xs[i]?=af x->vs[i]?=af v->Q x v
 |[],_,_,_,_=>λ aa e aa=>cu e
 |_::_,[],_,_,_=>λ aa aa e=>cu e
 |_::_,_::_,0,_,_=>λ h e e'=>am e▸am e'▸h.1
 |_::_,_::_,i+1,_,_=>λ h e e'=>JO.at (i:=i) h.2 e e'
section
variable{P:cC}{b:SE P Gy}{lf:au}{iv nn sc a:AV}{mem:ae AO}{K:AV->ae AO->Prop}{A:bn}{G:BM}{ρ:ae au}{s:ar}{vs:ae ak}{h':Heap}{c c1 c2 c3:au}{cv u:ak}{d:Nat}
structure yo(G:BM)(ρ:ae au)(s:ar)(h':Heap)(c:au)(a:AV):Prop where
 L:c≠s.heap.objs.size
 r:c∉ρ
 at_:∃v,VR G ρ a v/\h'.IsCell c (af v)
theorem oJ.f(h:oJ G c a)(R:RM G ρ mem s.heap)(kk:∀b o,s.heap.get? b=af o->h'.get? b=af o):yo G ρ s h' c a:=
 h.elim λ o h=>h.elim λ v h=>⟨λ e=>dh (df (aU e.symm)) (R.kg _ _ h.1),λ hm=>dh (R.fr c hm) h.1,v,VR.up (dG.refl _) ⟨ρ,rfl⟩ _ h.2.2,o,kk _ _ (R.kg _ _ h.1),h.2.1⟩
abbrev oV(s:ar)(lf c1 c2 c3:au)(cv:ak):Env:=newEnv mG s.heap.objs.size dk (uA c1 c2 c3) (m_++".<locals>.") (af lf) cv none la
theorem KO:∀y∈Gy.names,y.2≠ .cell:=by decide
theorem EI{x:bI}{Q:Prop}(h:Gy.names.lookup x=af .cell):Q:=bt rfl (KO _ (mem_of_lookup h))
theorem UV(R:RM G ρ mem s.heap)(Sk:h'.Ns s.heap.objs.size λ x=>([(("told":bI),u)]:ae (bI×ak)).reverse.lookup x)(kk:∀b o,s.heap.get? b=af o->h'.get? b=af o)(vu:VR G ρ a u)(k1:yo G ρ s h' c1 iv)(k2:yo G ρ s h' c2 nn)(k3:yo G ρ s h' c3 sc)
  (N5:c1≠c2) (N6:c1≠c3) (N7:c2≠c3) {t:Nat}:RF ⟨A,oV s lf c1 c2 c3 cv,s.heap,ρ,G,s,false⟩ Gy.aS G ρ ⟨[a,iv,nn,sc],mem⟩ {s with heap:=h',toks:=t}:=
 have cl:∀{x:bI} {c:au} {a:AV},yo G ρ s h' c a->(uA c1 c2 c3).lookup x=af c->(oV s lf c1 c2 c3 cv).kindOf x=af .free->∃u,VR G ρ a u/\At (oV s lf c1 c2 c3 cv) h' x u:=λ k e z=>k.at_.imp λ u q=>⟨q.1, .inr ⟨.inr z,_,e,q.2⟩⟩
 have cf:∀{x:bI} {c:au} {a:AV},yo G ρ s h' c a->c≠s.heap.objs.size/\c∉ρ/\(∃v,h'.IsCell c v)/\((oV s lf c1 c2 c3 cv).kindOf x=af .cell->G c=none):=λ k=>⟨k.L,k.r,k.at_.elim λ aa q=>⟨_,q.2⟩,EI⟩
 RF.first R kk (df (cF _)) ⟨_,Sk⟩ (λ x c e=>aJ (p:=λ p:bI×au=>p.2≠s.heap.objs.size/\p.2∉ρ/\(∃v,h'.IsCell p.2 v)/\((oV s lf c1 c2 c3 cv).kindOf p.1=af .cell->G p.2=none)).mpr ⟨cf k3,aJ.mpr ⟨cf k2,aJ.mpr ⟨cf k1,λ aa h=>bt h bK⟩⟩⟩ (x,c) (mem_of_lookup (l:=uA c1 c2 c3) e))
  (λ x y c e e'=>name_of_addr (cs:=uA c1 c2 c3) (Ju.mpr ⟨aJ.mpr ⟨N7.symm,aJ.mpr ⟨N6.symm,λ aa h=>bt h bK⟩⟩,Ju.mpr ⟨aJ.mpr ⟨N5.symm,λ aa h=>bt h bK⟩,pb _ _⟩⟩) (mem_of_lookup e) (mem_of_lookup e'))
  (λ i x v e e' aa=>JO.at (Q:=λ x v=>∃u,VR G ρ v u/\At (oV s lf c1 c2 c3 cv) h' x u) (xs:=["told","intervals","n","scan"]) (vs:=[a,iv,nn,sc]) ⟨⟨u,vu, .inl ⟨rfl,_,Sk,rfl⟩⟩,cl k1 rfl rfl,cl k2 rfl rfl,cl k3 rfl rfl,trivial⟩ e e') (GZ.of ⟨rfl,rfl,rfl⟩)
theorem UR:RB ["told"]:=λ fd vs=>by kernel_rfl
theorem WC.lam(hΦ:∀G,P.Φ G->ud b.bA lf iv nn sc G)(ch:b.ch=true)(h:b.run ⟨[a,iv,nn,sc],mem⟩ λ v σ=>K v σ.mem):WC P.up lf [a] mem K:=by
 refine⟨λ A G ρ s vs room i8 R hv=>R.AT (P:=P) i8 λ aa aa aa aa aa aa b2 b3=>?_⟩
 rcases hΦ G i8 with⟨c1,c2,c3,c',KP,pm,oc,fs,t,h1,h2,h2d,h2v,k1,k2,k3,N5,N6,N7⟩
 refine hv.u1 (Q:=λ vs=>dP P.j (aE P.prog P.w) A (.call (.ref lf) ⟨vs,[]⟩) (Hk (WQ G ρ s K)) s) λ u vu=>?_
 refine X.Iu (fd:=kla_fn "<lambda>" m_ vl b.bA mG (uA c1 c2 c3) pm (.ref c') KP) (aT (bq _ _) (b_ room.1 (by decide))) (R.kg _ _ h1) rfl (b2.nolimit.keeps b3) ⟨c',oc,fs,t,rfl,R.kg _ _ h2,h2d,h2v⟩ rfl
  (uC UR rfl rfl s [u] rfl) (λ x hx=>(be.mp hx:x=(("told":bI),u))▸rfl) KO rfl rfl rfl λ h' Sk kk=>?_
 have O:gM P Gy ⟨A.deeper (oV s lf c1 c2 c3 (.ref c')),oV s lf c1 c2 c3 (.ref c'),s.heap,ρ,G,s,false⟩:=⟨rfl,rfl,rfl,rfl,room.deeper,i8,qA rfl,rfl,λ x=>EI,λ hx=>ay hx,λ hx=>ay hx⟩
 exact X.mono (b.ok ch _ G ρ _ _ _ O (UV R Sk kk vu (k1.f R kk) (k2.f R kk) (k3.f R kk) N5 N6 N7) h) λ v s' z=>z.u λ G' ρ' av b7 g x R' vv hk=>RF.leave (env:=oV s lf c1 c2 c3 (.ref c')) (df (cF _)) (λ x c aa q aa=>EI q) g x R' vv hk
end
section
noncomputable def tg:ae AV->Prop
 |[]=>True
 |v::r=>(∃i,v= .int i)/\tg r
theorem tg.vrs{G G':BM}{ρ ρ':ae au}:∀{us:ae AV} {vs:ae ak},tg us->bJ G ρ us vs->bJ G' ρ' us vs
 |[],_=>λ aa=>id
 |v::r,vs=>λ hi h=>hi.1.elim λ i e=>h.uc (Q:=λ vs=>bJ G' ρ' (v::r) vs) λ u t h1 h2=> .cons (e▸(e▸h1:VR G ρ (.int i) u)) (tg.vrs hi.2 h2)
noncomputable def Qk(o:Obj):Prop:=∀v,o.data≠ .cell v
abbrev F5(G G':BM):Prop:=∀a o,G a=af o->Qk o->G' a=af o
theorem pB.drop{G G':BM}(k:F5 G G'):∀{ks:ae (ae Int)} {es:ae bf} {us:ae ak},pB G ks es us->pB G' ks es us
 |[],_,_=>id
 |_::_,_,_=> .imp λ aa=> .imp λ aa=> .imp λ aa=> .imp λ aa=> .imp λ aa=> .imp λ aa=> .imp_right<| .imp_right<| .imp (λ h=>⟨k _ _ h.1 (h.2.2.elim λ n e v q=>nomatch e.symm.trans q),h.2⟩)<| .imp_right<|pB.drop k
theorem VR.XD{G G':BM}{ρ ρ':ae au}(k:F5 G G'){ks:ae (ae Int)}{us:ae AV}(hi:tg us){v:ak}:VR G ρ (.bG ks us) v->VR G' ρ' (.bG ks us) v:=
 .imp λ aa=> .imp λ aa=> .imp λ aa=> .imp λ aa=> .imp λ aa=> .imp_right λ h=>⟨k _ _ h.1 (λ v q=>nomatch h.2.2.1.symm.trans q),h.2.1,h.2.2.1,h.2.2.2.1.drop k,hi.vrs h.2.2.2.2.1,h.2.2.2.2.2⟩
noncomputable def cC.lam(P:cC)(body:aB)(lf:au)(iv nn sc:AV):cC:={P with
 Φ:=λ G=>P.Φ G/\ud body lf iv nn sc G
 mono:=λ G G' g h=>⟨P.mono G G' g h.1,ud.up G G' g h.2⟩
 base:=λ G h=>P.base G h.1
 glob:=λ G x v ρ h=>P.glob G x v ρ h.1
 Jl:=λ G h=>P.Jl G h.1}
open Classical in
noncomputable def BM.plus(G:BM)(h:Heap)(l:ae au):BM:=λ a=>if a∈l then h.get? a else G a
open Classical in
noncomputable def BM.less(G:BM)(l:ae au):BM:=λ a=>if a∈l then none else G a
section
variable{G:BM}{h:Heap}{l:ae au}{a:au}{o:Obj}
theorem BM.mo(m:a∈l):G.plus h l a=h.get? a:=dq m
theorem BM.Dg(m:a∉l):G.plus h l a=G a:=bC m
theorem BM.Hq(k:KG G h):dG G (G.plus h l):=λ a o e=>(d5 (a∈l)).elim (λ m=>(BM.mo m).trans (k a o e)) λ m=>(BM.Dg m).trans e
theorem BM.Hr(e:G.plus h l a=af o):G a=af o\/(a∈l/\h.get? a=af o):=(d5 (a∈l)).elim (λ m=> .inr ⟨m,(BM.mo m).symm.trans e⟩) λ m=> .inl ((BM.Dg m).symm.trans e)
theorem BM.G6(m:a∉l)(e:G a=af o):G.less l a=af o:=(bC m).trans e
theorem BM.G7(e:G.less l a=af o):G a=af o/\a∉l:=(d5 (a∈l)).elim (λ m=>dh (dq m) e) λ m=>⟨(bC m).symm.trans e,m⟩
end
structure mD(G:BM)(ρ:ae au)(s:ar)(c:au)(a:AV):Prop where
 at_:∃u,VR G ρ a u/\s.heap.IsCell c (af u)
 r:c∉ρ
 g:G c=none
structure F8(body:aB)(G:BM)(s:ar)(c1 c2 c3 lf c':au)(s':ar):Prop where
 dead:s.heap.get? lf=none
 lo:∃pm KP,s'.heap.get? lf=af (kla_obj "<lambda>" m_ vl body mG (uA c1 c2 c3) pm c' KP)
 keep:∀b o,b≠dM->s.heap.get? b=af o->s'.heap.get? b=af o
 tab:∃ps,s'.heap.get? dM=af (ti ps)/\TriplesOk ps.toList/\codeAmong Ak ps.toList=af (.ref c')
 co:∃oc fs t,s'.heap.get? c'=af oc/\(oc.data= .fields fs/\fs[1]?=af (.str m_ t))/\(G c'=af oc\/s.heap.get? c'=none)
 nct:c'≠dM
 z:s'.gens=s.gens/\s'.os=s.os
section
variable{P:cC}{ct:Ct}
theorem VR.close{G:BM}{ρ:ae au}{a:AV}{u:ak}(cl:∀f,ew f a=a)(h:VR G ρ a u):VR G [] a u:=
 VR.lL (ρ:=[]) (ρ':=ρ) (f:=λ i=>ρ.length+i) (λ i a e=>dh (e8 (bq _ _)) e) a ((cl _).symm▸h)
theorem zS{F:Fd}{G:BM}{ρ:ae au}{σ:St}{s:ar}(O:gM P ct F)(R:RF F ct.aS G ρ σ s){i:Nat}{x:bI}{a:AV}(ht:ct.aS[i]?=af x)(hk:ct.names.lookup x=af .cell)(hl:fC σ.loc i=a)(hn:a≠ .undef):∃c,F.env.cells.lookup x=af c/\mD G ρ s c a:=
 have kk:F.env.kindOf x=af .cell:=(ah (·.lookup x) O.names).trans hk
 (R.loc i x a ht (qy _ _ _ hl hn) hn).elim λ u h=>h.2.elim (λ k=>nomatch kk.symm.trans k.1) λ k=>k.2.elim λ c k=>have q:=R.cell x c k.1; ⟨c,k.1,⟨u,h.1,k.2⟩,q.2.1,q.2.2.2 kk⟩
section
variable{body:aB}{lf c c1 c2 c3:au}{F:Fd}{G G':BM}{σ:St}{s s' s'':ar}{a iv nn sc:AV}
theorem mD.kept(k:mD G [dM] s c a)(keep:∀b o,b≠dM->s.heap.get? b=af o->s'.heap.get? b=af o):∃o u,VR G [dM] a u/\s'.heap.get? c=af o/\o.data= .cell (af u):=k.at_.elim λ u q=>q.2.elim λ o w=>⟨o,u,q.1,keep c o (λ e=>k.r (e▸ .head _)) w.1,w.2⟩
theorem mD.to(k:mD G [dM] s c a)(keep:∀b o,b≠dM->s.heap.get? b=af o->s'.heap.get? b=af o)(cl:∀f,ew f a=a)(le:dG G G')(e:G' c=s'.heap.get? c):oJ G' c a:=
 (k.kept keep).elim λ o h=>h.elim λ u h=>⟨o,u,e.trans h.2.1,h.2.2,VR.up le (Ext.refl _) _ (h.1.close cl)⟩
noncomputable abbrev IT(c1 c2 c3 lf c':au):ae au:=[lf,c',c1,c2,c3]
variable{c':au}{adR:aB}
theorem US(m:F8 body G s c1 c2 c3 lf c' s')(kg:KG G s'.heap)(i8:P.Φ G)(k1:mD G [dM] s c1 iv)(k2:mD G [dM] s c2 nn)(k3:mD G [dM] s c3 sc)(cl:(∀f,ew f iv=iv)/\(∀f,ew f nn=nn)/\∀f,ew f sc=sc)(N5:c1≠c2)(N6:c1≠c3)(N7:c2≠c3):
  (P.lam body lf iv nn sc).Φ (G.plus s'.heap (IT c1 c2 c3 lf c'))/\RM (G.plus s'.heap (IT c1 c2 c3 lf c')) [] [] s'.heap:=
 have le:=BM.Hq (l:=IT c1 c2 c3 lf c') kg
 ⟨⟨P.mono _ _ le i8,m.lo.elim λ pm q=>q.elim λ KP q=>m.co.elim λ oc w=>w.elim λ fs w=>w.elim λ t w=>
  ⟨c1,c2,c3,c',KP,pm,oc,fs,t,(BM.mo (.head _)).trans q,(BM.mo (.tail _ (.head _))).trans w.1,w.2.1.1,w.2.1.2,k1.to m.keep cl.1 le (BM.mo (.tail _ (.tail _ (.head _)))),k2.to m.keep cl.2.1 le (BM.mo (.tail _ (.tail _ (.tail _ (.head _))))),
   k3.to m.keep cl.2.2 le (BM.mo (.tail _ (.tail _ (.tail _ (.tail _ (.head _)))))),N5,N6,N7⟩⟩,
  λ a o e=>(BM.Hr e).elim (kg a o) f_,rfl,λ i a ao h=>cu h,gA,λ a h=>(nomatch h)⟩
theorem LU(m:F8 body G s c1 c2 c3 lf c' s')(R:RF F ct.aS G [dM] ⟨σ.loc,[.tab]⟩ s)(k1:mD G [dM] s c1 iv)(k2:mD G [dM] s c2 nn)(k3:mD G [dM] s c3 sc)(le:dG G G')(g:dG (G.plus s'.heap (IT c1 c2 c3 lf c')) G')(M:RM G' [] [] s''.heap)
  (kp:∀a o,s'.heap.get? a=af o->s''.heap.get? a=af o) (gf:∀a o,G' a=af o->G.plus s'.heap (IT c1 c2 c3 lf c') a=af o\/s'.heap.get? a=none) (gz:GZ s' s''):
  dG G (G'.less [c1,c2,c3])/\RF F ct.aS (G'.less [c1,c2,c3]) [dM] ⟨σ.loc,[.tab]⟩ s''/\F5 G' (G'.less [c1,c2,c3]):=by
 have adk:G dM=none:=R.rm.fr dM (.head _)
 have out:∀{a},a∈[c1,c2,c3]->G a=none:=λ h=>aJ (p:=λ a=>G a=none).mpr ⟨k1.g,aJ.mpr ⟨k2.g,aJ.mpr ⟨k3.g,λ aa h=>bt h bK⟩⟩⟩ _ h
 have cell:∀a∈[c1,c2,c3],∃o u,s'.heap.get? a=af o/\o.data= .cell (af u):=
  have c:∀{c a},mD G [dM] s c a->∃o u,s'.heap.get? c=af o/\o.data= .cell (af u):=λ k=>(k.kept m.keep).imp λ aa=> .imp λ aa=>f_
  aJ.mpr ⟨c k1,aJ.mpr ⟨c k2,aJ.mpr ⟨c k3,λ aa h=>bt h bK⟩⟩⟩
 have drop:F5 G' (G'.less [c1,c2,c3]):=λ a o e n=>BM.G6 (λ h=>(cell a h).elim λ o' w=>w.elim λ u w=>n (af u) (am ((M.kg a o e).symm.trans (kp a o' w.1))▸w.2)) e
 have of:∀a o,G'.less [c1,c2,c3] a=af o->G a=af o\/s.heap.get? a=none:=λ a o e=>have e:=BM.G7 e; (gf a o e.1).elim (λ q=>(BM.Hr q).elim .inl λ q=>(bQ.mp q.1).elim (λ e=> .inr (e▸m.dead)) λ h=>(bQ.mp h).elim
  (λ e=>m.co.elim λ oc w=>w.elim λ fs w=>w.elim λ t w=>e.symm▸w.2.2.imp_left λ z=>z.trans (w.1.symm.trans (e▸q.2))) λ h=>bt h e.2)
  λ q=> .inr (none_of λ o' w=>(d5 (a=dM)).elim (λ z=>m.tab.elim λ aa y=>dh (z▸q) y.1) λ z=>dh q (m.keep a o' z w))
 have adi:G'.less [c1,c2,c3] dM=none:=none_of λ o e=>(of _ o e).elim (dh adk) λ q=>(R.rm.some_of (.head _)).elim λ aa=>dh q
 have YE:dG G (G'.less [c1,c2,c3]):=λ a o e=>BM.G6 (λ h=>dh (out h) e) (le a o e)
 refine⟨YE,R.HF (s':=s'') (mem':=[.tab]) (Ext.refl _) YE ⟨λ a o e=>M.kg a o (BM.G7 e).1,rfl,λ i a ao h h'=>?_,R.rm.nd,λ a ha=>(be.mp ha)▸adi⟩ (λ a h=> .inl h) of (λ a o n e=>kp a o (m.keep a o (λ q=>n (q▸ .head _)) e)) ((GZ.of ⟨m.z.1,m.z.1,m.z.2⟩).trans gz),drop⟩
 rcases i with _|i
 ·cases h
  cases h'
  exact m.tab.elim λ ps y=>m.co.elim λ oc w=>w.elim λ fs w=>w.elim λ t w=>⟨_,kp _ _ y.1,ps,rfl,y.2.1, .inr ⟨c',oc,fs,t,y.2.2,drop c' oc (g _ _ ((BM.mo (.tail _ (.head _))).trans w.1)) (λ v q=>nomatch w.2.1.1.symm.trans q),w.2.1⟩⟩
 ·exact cu h
theorem LV(O:gM P ct F)(R:RF F ct.aS G [dM] ⟨σ.loc,[.tab]⟩ s)(k1:mD G [dM] s c1 iv)(k2:mD G [dM] s c2 nn)(k3:mD G [dM] s c3 sc)(N5:c1≠c2)(N6:c1≠c3)(N7:c2≠c3)(cl:(∀f,ew f iv=iv)/\(∀f,ew f nn=nn)/\∀f,ew f sc=sc)
  (m:F8 body G s c1 c2 c3 lf c' s') {ks:ae (ae Int)} {us:ae AV} (hi:tg us) {vs3:ae ak} (va:bJ G [dM] [sc,nn, .int 5] vs3) (H:WC (P.lam body lf iv nn sc) 68 [sc,nn, .int 5, .fn lf] [] λ v m=>v= .bG ks us/\m=[]) {Q:ak->ar->Prop}
  (k:∀v s'' G2,dG G G2->RF F ct.aS G2 [dM] ⟨σ.loc,[.tab]⟩ s''->VR G2 [dM] (.bG ks us) v->Q v s''):WP P F.A (call (.ref 68) (vs3++[.ref lf]) []) Q s':=by
 have kg:KG G s'.heap:=λ a o e=>m.keep a o (λ q=>dh (R.rm.fr dM (.head _)) (q▸e)) (R.rm.kg a o e)
 have le:=BM.Hq (l:=IT c1 c2 c3 lf c') kg
 have I:=US (P:=P) m kg (R.i8 O) k1 k2 k3 cl N5 N6 N7
 refine X.calls (X.el (H.run F.A _ [] s' _ O.room I.1 I.2 ((bJ.up le (Ext.refl _) _ (bJ.close (vs:=[sc,nn, .int 5]) (λ f=>show[ew f sc,ew f nn, .int 5]=_ from congr (ah pa (cl.2.2 f)) (ah (·::[AV.int 5]) (cl.2.1 f))) va)).append (bJ.cons (m.lo.elim λ aa q=>q.elim λ aa q=>vK rfl ⟨_,_,(BM.mo (.head _)).trans q,rfl⟩) bJ.nil))) λ r s'' y=>?_)
 refine y.u (Q:=λ r s''=>match r with | .ok (.ret v)=>Q v s''|_=>False) λ v y=>?_
 rcases y with⟨G',ρ',av,mem',⟨g,x,R',vv,e1,e2⟩,kp,nw,gf,gz⟩
 cases cZ.mp (R'.len.trans (ah fZ e2))
 have B:=LU (F:=F) (ct:=ct) (σ:=σ) m R k1 k2 k3 (le.trans g) g (e2▸R') (λ a o e=>kp a o bK e) gf gz
 exact k v s'' _ B.1 B.2.1 (VR.XD B.2.2 hi (e1▸vv))
theorem ac0{ρ:ae au}{a:au}(l:ρ.length=1)(h:ρ[0]?=af a):ρ=[a]:=by
 obtain⟨x,rfl⟩:=DQ.mp l
 exact ah (λ x=>[x]) (am h)
end
end
end
theorem Q8{v:ak}(h:ZJ v=true):∃s t,v= .str s t:=by
 rcases v
 case str=>exact⟨_,_,rfl⟩
 all_goals exact ay h
theorem GW{v:ak}(h:UC v=true):∃s t,v= .int s t:=by
 rcases v
 case int=>exact⟨_,_,rfl⟩
 all_goals exact ay h
theorem OW{v:ak}(h:Xo v=true):∃b,v= .bool b:=by
 rcases v
 case bool=>exact⟨_,rfl⟩
 all_goals exact ay h
theorem U8{a b:Nat}(h:(!a_ a b)=true):a≠b:=pM (nb h)
theorem yK{K:eI}{h:Heap}(hK:K.In h)(c:kH K=true):CodeHd h wi dM:=
 f9 (aF c).2 λ o ho c=>Ps (aF c).2 λ vs hv d=>f9 d λ v hp d=>(lA (aF d).1).elim λ p e=>
  have hp:vs[11]?=af (.ref dM):=hp.trans (ah af (e.1.trans (ah du (aL e.2))))
  have d1:=aF (aF d).2
  have d2:=aF d1.2
  have d3:=aF d2.2
  (Q8 d1.1).elim λ aa a=>a.elim λ aa a=>(GW d2.1).elim λ aa b=>b.elim λ aa b=>(OW d3.1).elim λ aa e=>(GW d3.2).elim λ aa f=>f.elim λ aa f=>
   ⟨o,vs,_,_,_,_,_,_,_,hK _ _ ho,FK (aF c).1,hv,hp,Array.getD_eq_getD_getElem?.trans (ah (Option.getD · c_) hp),a,b,e,f,by decide⟩
theorem Xn{K:eI}{h:Heap}{mg:bI->aq ak}(hK:K.In h)(hg:h.Ns dk mg)(c:kH K=true):h.BuiltinsAt mg dM:=
 f9 (aF c).1 λ r hr c=>f9 c λ v hv c=>(lA c).elim λ bm e=>f9 e.2 λ o ho c=>
  have c1:=aF c
  have c2:=aF c1.2
  have c3:=aF c2.2
  have c4:=aF c3.2
  have c5:=aF c4.2
  f9 c2.1 λ d hd q=>⟨bm,o,mg_of hK hg (hr.trans (ah af (hv.trans (ah af e.1)))),U8 c4.1,U8 c5.1,U8 c5.2,hK _ _ ho,FK c1.1,hd.trans (ah af (aL q)),Vi c3.1⟩
section
variable{P:cC}{ct:Ct}
def P1(b:SE P Gy):aB:= .Lambda vl b.bA mG Ak
def eCh:SE P ct:=Wi "chosen_conditioning" (.fn 68) ⟨487,11,487,30⟩
def Ws:SE P ct:=eZ 2 ⟨487,31,487,35⟩
def eN:SE P ct:=eZ 5 ⟨487,37,487,38⟩
def eMt:SE P ct:=Wi "MOST_TRIED" (.int 5) ⟨487,40,487,50⟩
theorem Pb{σ:St}{K:AV->St->Prop}(h:ldK (fC σ.loc 2) σ K):(Ws (P:=P) (ct:=ct)).run σ K:=h
theorem T0{σ:St}{K:AV->St->Prop}(h:ldK (fC σ.loc 5) σ K):(eN (P:=P) (ct:=ct)).run σ K:=h
noncomputable def tH(ct:Ct)(i:Nat)(x:bI):aC:=(ct.aS[i]?==af x)&&(ct.names.lookup x==af .cell)
theorem p7{env:Env}{n:bI}{c:au}{r:ae (bI×dJ)}{acc:ae (bI×au)}(h:env.cells.lookup n=af c):kG env ((n, .free)::r) acc=kG env r ((n,c)::acc):=by
 show kG env r (match env.cells.lookup n with|some c=>(n,c)::acc|none=>acc)=_
 rw[h]
theorem y4{env:Env}{c1 c2 c3:au}(l1:env.cells.lookup ("intervals":bI)=af c1)(l2:env.cells.lookup ("n":bI)=af c2)(l3:env.cells.lookup ("scan":bI)=af c3):D8 mG env=pure (uA c1 c2 c3):=
 (wf (aJ.mpr ⟨λ h=>(nomatch h),aJ.mpr ⟨λ aa=>⟨_,l1⟩,aJ.mpr ⟨λ aa=>⟨_,l2⟩,aJ.mpr ⟨λ aa=>⟨_,l3⟩,aJ.mpr ⟨λ h=>(nomatch h),aJ.mpr ⟨λ h=>(nomatch h),λ aa h=>bt h bK⟩⟩⟩⟩⟩⟩)).trans
  (ah pure ((show kG env mG.names []=kG env (("intervals", .free)::("n", .free)::("scan", .free)::[("data_size", .globalImplicit),("arith_writer", .globalImplicit)]) [] from rfl).trans ((p7 l1).trans ((p7 l2).trans (p7 l3)))))
section
variable{b:SE P Gy}{F:Fd}{G:BM}{l:ae AV}{s:ar}{c1 c2 c3:au}
theorem LW(O:gM P ct F)(R:RF F ct.aS G [dM] ⟨l,[.tab]⟩ s)(hq:ct.cq=true)(l1:F.env.cells.lookup ("intervals":bI)=af c1)(l2:F.env.cells.lookup ("n":bI)=af c2)(l3:F.env.cells.lookup ("scan":bI)=af c3)
  {Q:ak->ar->Prop} (h:∀lf c' s',F8 b.bA G s c1 c2 c3 lf c' s'->Q (.ref lf) s'):aH (aE P.prog P.w) F.A (eval (P1 b) F.env) Q dw s:=R.AT O λ B p lo mg mb aa b2 b3=>by
 have q:=O.cq hq
 have hK:P.K.In s.heap:=R.K O
 have hg:=b2.g.keeps b3
 have C:=yK hK q.2.2
 have hb:=Xn hK hg q.2.2
 obtain⟨o,ho,ps,rfl,Yh,hc⟩:=R.rm.obj 0 dM .tab rfl rfl
 unfold P1
 refine kla_eval rfl ?_
 rw[show F.env.qual++"<lambda>"=m_ from ah (λ q:bI=>q++bT "<lambda>") q.2.1]
 rcases hc with hc|⟨c',oc,fs,t,hc,g1,g2⟩
 ·refine kla_makeFunction (y4 l1 l2 l3) O.glob hg q.1 C ho Yh hc (by decide) hb λ c' KP h' tk hx hge IL ab7 LB=>?_
  obtain⟨c₂,oc,fs,t,e2,Ye,hd⟩:=ab7
  cases e2
  have hd0:s.heap.get? c'=none:=df hge
  exact h h'.objs.size c' _ ⟨df (aG hge (eX IL)),⟨_,_,aN _ rfl⟩,λ b o n e=>aA _ (hx b o n e),⟨_,aA _ LB,mr.symm▸TriplesOk_snoc _ _ _ _ Yh,mr.symm▸codeAmong_snoc _ Yh hc⟩,
   ⟨oc,fs,t,aA _ Ye,hd, .inr hd0⟩,λ q=>dh hd0 (q▸ho),rfl,rfl⟩
 ·exact kla_makeFunctionHit (y4 l1 l2 l3) O.glob hg q.1 C ho Yh hc hb λ KP h' tk hk hsz=>h h'.objs.size c' _ ⟨df hsz,⟨_,_,aN _ rfl⟩,λ b o aa e=>aA _ (hk b o e),⟨ps,aA _ (hk _ _ ho),Yh,hc⟩,
   ⟨oc,fs,t,aA _ (hk _ _ (R.rm.kg _ _ g1)),g2, .inl g1⟩,λ q=>dh (R.rm.fr dM (.head _)) (q▸g1),rfl,rfl⟩
end
theorem SE.Kk(e:SE P ct)(c:e.ch=true){F:Fd}{G:BM}{ρ:ae au}{σ:St}{s:ar}(O:gM P ct F)(R:RF F ct.aS G ρ σ s){V:AV}(run:e.run σ λ a b7=>a=V/\b7=σ){Q:ak->ar->Prop}(k:∀G' ρ' v s',dG G G'->Ext ρ ρ'->RF F ct.aS G' ρ' σ s'->VR G' ρ' V v->Q v s'):
  cL P.j (aE P.prog P.w) F.A (eval e.bA F.env) Q s:=X.mono (e.ok c F G ρ σ s _ O R run) λ v s' z=>z.u λ G' ρ' a b7 g x R' va h=>k G' ρ' v s' g x (h.2▸R') (h.1▸va)
structure WV(P:cC)(b:SE P Gy)(σ:St)(ks:ae (ae Int))(us:ae AV)(sc nn iv:AV):Prop where
 l:fC σ.loc 2=sc/\fC σ.loc 5=nn/\fC σ.loc 4=iv
 u:sc≠ .undef/\nn≠ .undef/\iv≠ .undef
 cl:(∀f,ew f iv=iv)/\(∀f,ew f nn=nn)/\∀f,ew f sc=sc
 hi:tg us
 m:σ.mem=[.tab]
 H:∀lf,WC (P.lam b.bA lf iv nn sc) 68 [sc,nn, .int 5, .fn lf] [] λ v m=>v= .bG ks us/\m=[]
theorem P3{b:SE P Gy}{σ:St}{ks:ae (ae Int)}{us:ae AV}{sc nn iv:AV}(L:WV P b σ ks us sc nn iv)(c:(((eCh (P:=P) (ct:=ct)).ch&&((Ws (P:=P) (ct:=ct)).ch&&((eN (P:=P) (ct:=ct)).ch&&(eMt (P:=P) (ct:=ct)).ch)))&&((tH ct 2 "scan"&&(tH ct 5 "n"&&tH ct 4 "intervals"))&&(ct.tb&&ct.cq)))=true)
  {F:Fd} {G:BM} {ρ:ae au} {s:ar} (O:gM P ct F) (R:RF F ct.aS G ρ σ s) {Q:ak->ar->Prop} (k:∀v s' G2 ρ2,dG G G2->Ext ρ ρ2->RF F ct.aS G2 ρ2 σ s'->VR G2 ρ2 (.bG ks us) v->Q v s'):
  cL P.j (aE P.prog P.w) F.A (eval (.Call (.Name "chosen_conditioning" ⟨487,11,487,30⟩) [(Ws (P:=P) (ct:=ct)).bA,(eN (P:=P) (ct:=ct)).bA, .Name "MOST_TRIED" ⟨487,40,487,50⟩,P1 b] [] ⟨487,11,487,115⟩) F.env) Q s:=by
 have ca:=aF (aF c).1
 have ca2:=aF ca.2
 have ca3:=aF ca2.2
 have cb:=aF (aF c).2
 have m1:=aF cb.1
 have m2:=aF m1.2
 have e:=aF m1.1
 have e':=aF m2.1
 have e'':=aF m2.2
 have tq:=aF cb.2
 obtain⟨l,m⟩:=σ
 cases(show m=[.tab] from L.m)
 refine X.pX ((eCh (P:=P) (ct:=ct)).Kk ca.1 O R (V:= .fn 68) ⟨rfl,rfl⟩ λ dW c8 u s₁ fK fh dS va=>?_)
 obtain⟨rfl,o,fd,ho,hd⟩:=va
 refine X.ui (Pm:=λ h=>∃o fd,h.get? 68=af o/\o.data= .func fd) rfl Aj (X.ll rfl ((Ws (P:=P) (ct:=ct)).Kk ca2.1 O dS (V:=sc) (Pb (L.l.1.symm▸Al L.u.1 ⟨rfl,rfl⟩)) λ jp g6 w2 bp jf ju gN v2=>X.ll rfl ((eN (P:=P) (ct:=ct)).Kk ca3.1 O gN (V:=nn) (T0 (L.l.2.1.symm▸Al L.u.2.1 ⟨rfl,rfl⟩)) λ rP k9 w5 fW kJ kQ lD v5=>
  X.ll rfl ((eMt (P:=P) (ct:=ct)).Kk ca3.2 O lD (V:= .int 5) ⟨rfl,rfl⟩ λ Th NX w6 s7 Cr DP pT v6=>?_))))
 have hρ:NX=[dM]:=ac0 pT.rm.len (pT.ext.get (O.tb tq.1))
 subst hρ
 refine(zS O pT (a4.mp e''.1) (a4.mp e''.2) L.l.2.2 L.u.2.2).elim λ d1 k1=>(zS O pT (a4.mp e'.1) (a4.mp e'.2) L.l.2.1 L.u.2.1).elim λ d2 k2=>(zS O pT (a4.mp e.1) (a4.mp e.2) L.l.1 L.u.1).elim λ d3 k3=>?_
 have ne:∀{x y:bI} {c d:au},F.env.cells.lookup x=af c->F.env.cells.lookup y=af d->x≠y->c≠d:=λ ex ey n q=>n (pT.p6 _ _ _ ex (q▸ey))
 have g14:dG dW Th:=jf.trans (kJ.trans Cr)
 exact X.ll rfl (X.any (LW (b:=b) O pT tq.2 k1.1 k2.1 k3.1 λ lf c' s' m=>X.any (Bv ⟨⟨o,fd,m.keep _ _ (by decide) (pT.rm.kg _ _ (g14 _ _ ho)),hd⟩,LV (σ:=⟨l,[.tab]⟩) O pT k1.2 k2.2 k3.2 (ne k1.1 k2.1 (by decide)) (ne k1.1 k3.1 (by decide)) (ne k2.1 k3.1 (by decide)) L.cl m L.hi
  (.cons (v2.up (kJ.trans Cr) (kQ.trans DP)) (.cons (v5.up Cr DP) (.cons v6 .nil))) (L.H lf) λ v s'' G2 g Ba vv=>k v s'' G2 [dM] (fK.trans (g14.trans g)) (fh.trans (ju.trans (kQ.trans DP))) Ba vv⟩)))
def QT(b:SE P Gy):SX P ct where
 bA:= .Return (af (.Call (.Name "chosen_conditioning" ⟨487,11,487,30⟩) [(Ws (P:=P) (ct:=ct)).bA,(eN (P:=P) (ct:=ct)).bA, .Name "MOST_TRIED" ⟨487,40,487,50⟩,P1 b] [] ⟨487,11,487,115⟩)) ⟨487,4,487,115⟩
 run:=λ σ K=>∃sc nn iv ks us,WV P b σ ks us sc nn iv/\K (.ret (.bG ks us)) σ
 ch:=((eCh (P:=P) (ct:=ct)).ch&&((Ws (P:=P) (ct:=ct)).ch&&((eN (P:=P) (ct:=ct)).ch&&(eMt (P:=P) (ct:=ct)).ch)))&&((tH ct 2 "scan"&&(tH ct 5 "n"&&tH ct 4 "intervals"))&&(ct.tb&&ct.cq))
 ok:=λ c F G ρ σ s Kv O R h=>h.elim λ aa h=>h.elim λ aa h=>h.elim λ aa h=>h.elim λ ks h=>h.elim λ us h=>X.uf (P3 h.1 c O R λ v s' G2 ρ2 g x R' vv=>⟨G2,ρ2, .ret _,σ,g,x,R',⟨v,rfl,vv⟩,h.2⟩)
theorem pg.take{f:au}{dx:ae AV}{F:Fd}{G:BM}{ρ:ae au}{σ:St}{s:ar}{vs:ae ak}{Kv:AV->St->Prop}(O:gM P ct F)(ht:ct.tb=true)(R:RF F ct.aS G ρ σ s)(va:bJ G ρ dx vs)
  (h:pg P f dx σ.mem λ v m'=>Kv v ⟨σ.loc,m'⟩):WP P F.A (call (.ref f) vs []) (PE F ct.aS G ρ Kv) s:=
 X.calls (X.el (h.run F.A G ρ s vs (R.ext.get (O.tb ht)) O.room (R.i8 O) R.rm va) λ r s' z=>z.u (Q:=λ r s'=>match r with | .ok (.ret v)=>PE F ct.aS G ρ Kv v s'|_=>False) λ v z=>z.pe R)
noncomputable def Wd(f:SE P ct)(as:SL P ct)(p:c9):SE P ct where
 bA:= .Call f.bA as.bA [] p
 run:=λ σ K=>f.run σ λ fv aI=>Y8 fv λ g=>as.run aI λ vs aV=>pg P g vs aV.mem λ v m'=>K v ⟨aV.loc,m'⟩
 ch:=isNm f.bA&&(ct.tb&&(f.ch&&as.ch))
 star:=λ aa aa=>rfl
 ok:=λ c F G ρ σ s Kv O R h=>have hf:=wQ (aF c).1; have c:=(aF c).2; have ca:=aF (aF c).2
  zR f as hf ca.1 ca.2 O R h λ g vs us jp g6 aV bp le x gN q6 cW=>X.mono (pg.take O (aF c).1 gN q6 cW) λ aa aa z=>PE.up le x z
end
section
variable{prog:aK}{w:bw}{K:Type}[DecidableEq K]{knd:HeapKind prog w K}{A:bn}{E:ak->ar->Prop}{s:ar}
theorem UP{α β:Type}{l l':ae (α×β)}{i:Nat}{x y:α×β}(hk:l.map (·.1)=l'.map (·.1))(hx:l[i]?=af x)(hy:l'[i]?=af y):y.1=x.1:=
 am (((ah (ed Prod.fst) hy).symm.trans eQ.symm).trans ((ah (λ l=>l[i]?) hk.symm).trans (eQ.trans (ah (ed Prod.fst) hx))))
theorem G5{α β:Type}{l l':ae (α×β)}(hk:l.map (·.1)=l'.map (·.1)):l.length=l'.length:=(bL _).symm.trans ((ah fZ hk).trans (bL _))
theorem Fu{nm:cS}{a b:au}{ka kb:ae (K×au×ak)}{Q:aC->ar->Prop}(hu:knd.room A)(ha:(a==di)=false)(hb:(b==di)=false)(da:s.heap.DictOfH knd a ka)(db:s.heap.DictOfH knd b kb)
  (hk:ka.map (·.1)=kb.map (·.1)) (hv:∀(j:Nat) x y,ka[j]?=af x->kb[j]?=af y->SeqAt.EqAt A s x.2.2 y.2.2 true) (h:Q true s):aH (aE prog w) A (Builtin.Dict.samePairs nm a b) Q E s:=by
 rcases da with⟨oa,es,ep,Sl,_,hda,hea,hia,hna⟩
 rcases db with⟨ob,Be,JK,hob,_,hdb,heb,hib,hnb⟩
 have hla:=size_of_entries hea
 have hsz:es.size=Be.size:=hla.trans ((G5 hk).trans (size_of_entries heb).symm)
 unfold Builtin.Dict.samePairs Builtin.Dict.showsAll
 rw[ha,hb,bC aW]
 refine aj (aw (aj (aw (aj (eh Sl hda ?_)))))
 refine aj (eh hob hdb ?_)
 rw[hsz,lP,bC aW,← hsz]
 refine aj (nF Sl hda (aj ?_))
 rw[m6]
 refine wpAny_forIn_list _ (λ rest q s'=>s'=s/\q=(none,())/\∃i n,rest=fY i n/\i+n=es.size) _ ?_ ?_ _ _ ⟨rfl,rfl,0,es.size,ah (fY 0) ((Nat.div_one _).trans rfl),fy _⟩
 ·rintro x rest q s' ⟨rfl,rfl,i,n,hr,hi⟩
  cases n with
  |zero=>exact nomatch hr
  |succ n=>
   have e1:x=i:=Bl hr
   have e2:rest=fY (i+1) n:=Bn hr
   subst e1 e2
   have l1:x < ka.length:=hla▸hi▸DR (uP n)
   have⟨X,hx⟩:∃X,ka[x]?=af X:=⟨_,d9 l1⟩
   have⟨Y,hy⟩:∃Y,kb[x]?=af Y:=⟨_,d9 (G5 hk▸l1)⟩
   have hy':kb[x]?=af (X.1,Y.2):=hy.trans (ah (λ k=>af (k,Y.2)) (UP hk hx hy))
   refine aj (eh Sl hda ?_)
   rw[(entry_at hea x).trans (ah (ed _) hx)]
   refine aj (bU (aj (wpAny_dictFind_heap hu (hia _ (dB hx)) hob hdb heb hib hnb (λ hn=>bt hy' (hn x _)) λ j p hj=>?_)))
   have ej:x=j:=idxH_unique hnb hy' hj
   subst ej
   refine aj (eh hob hdb ?_)
   rw[(entry_at heb x).trans (ah (ed _) hy)]
   refine bU (hv x _ _ hx hy prog w _ _ ?_)
   refine(?_:aH _ _ (if (!true)=true then _ else _) _ _ _)
   rw[iK,bC aW]
   refine aj (nF Sl hda ?_)
   rw[lP,bC aW]
   exact aw ⟨rfl,rfl,x+1,n,rfl,(cV x 1 n).trans hi⟩
 ·rintro q s' ⟨rfl,rfl,_⟩
  exact aw h
theorem neH{a b:au}{ka kb:ae (K×au×ak)}{Q:ak->ar->Prop}(hu':knd.room A.in1)(ha:(a==di)=false)(hb:(b==di)=false)(da:s.heap.DictOfH knd a ka)(db:s.heap.DictOfH knd b kb)(hu:A.units < qN)
  (hk:ka.map (·.1)=kb.map (·.1)) (hv:∀(j:Nat) x y,ka[j]?=af x->kb[j]?=af y->SeqAt.EqAt A.in1 s x.2.2 y.2.2 true) (h:Q (.bool false) s):aH (aE prog w) A (dz .NotEq (.ref a) (.ref b)) Q E s:=by
 refine wpAny_richCompare_same_room (op:= .NotEq) da.typeIs db.typeIs Bp (cA Bp da.typeIs PySem.F.entry_dict_ne ?_ (PySem.F.args_dict_ne_2 _ _)) hu
 show aH _ _ (Builtin.Dict.dictSlotArgs "__ne__" ⟨[.ref a, .ref b],[]⟩>>=_) _ _ s
 refine aj ?_
 unfold Builtin.Dict.dictSlotArgs
 refine aj (ms da.typeIs ?_)
 show aH _ _ (pure (du a,du b)) _ _ s
 refine aw ?_
 refine aj (eO (T:="dict") db.typeIs PySem.F.sub_dict_dict ?_)
 rw[iK,bC aW]
 refine aj (aw (aj (aw ?_)))
 refine aj (Fu hu' ha hb da db hk hv ?_)
 refine aw ⟨_,rfl,?_,?_⟩
 ·exact λ x=>nomatch x
 ·exact h
end
section
variable{P:cC}{ct:Ct}
def Xu(a b:AV)(mem:ae AO)(K:aC->Prop):Prop:=l_ a mem λ ks us=>l_ b mem λ xI ry=>ks=xI/\us=ry/\tg us/\K false
theorem tg.get:∀{us:ae AV} {i:Nat} {v:AV},tg us->us[i]?=af v->∃k,v= .int k
 |v::r,0,_,h,e=>by cases e; exact h.1
 |v::r,i+1,_,h,e=>tg.get (us:=r) h.2 e
noncomputable def ZN(l r:SE P ct)(p:c9):ST P ct where
 bA:= .Compare l.bA [.NotEq] [r.bA] p
 run:=λ σ K=>l.run σ λ a aI=>r.run aI λ b aV=>Xu a b aV.mem λ c=>K c aV
 ch:=vt 3 r.bA&&(l.ch&&r.ch)
 ok:=λ c F G ρ σ s Kv O R h=>have d:=(xi (aF c).1).2; have c:=(aF c).2; X.isTrue_Compare1 (d _) (SE.then l r (aF c).1 (aF c).2 O R h λ G' ρ' a b u v b7 s' g x R' va vb kk=>by
  obtain⟨d,o,xs,ks,us,rfl,ho,hc,ns,D,e1,e2,e3,kk⟩:=lH O R' va kk
  obtain⟨d',o',xs',xI,ry,rfl,ET,hc',Bj,D',e1',e2',e3',rfl,rfl,hi,hk⟩:=lH O R' vb kk
  have room:(g7 (cE P.prog P.w)).room F.A.in1:=by show F.A.units+1 < qN; have:=O.room.2.1; show _ < 9900; omega
  refine X.any (neH (knd:=g7 (cE P.prog P.w)) room (by simpa using ns) (by simpa using Bj) D D' (by have:=O.room.2.1; show _ < 9900; omega) (e1.trans e1'.symm) (λ j x y hx hy=>?_) (X.any (pK ⟨G',ρ',b7,g,x,R',hk⟩)))
  have q1:(xs.map (·.2.2))[j]?=af x.2.2:=by rw[eQ,hx]; rfl
  have q2:(xs'.map (·.2.2))[j]?=af y.2.2:=by rw[eQ,hy]; rfl
  have hj:j < us.length:=by
   have:=(jm.mp q1).1
   rw[e2.length] at this; exact this
  obtain⟨z1,hz1,w1⟩:=e2.get (d9 hj)
  obtain⟨z2,hz2,w2⟩:=e2'.get (d9 hj)
  rw[q1] at hz1; cases hz1
  rw[q2] at hz2; cases hz2
  obtain⟨k,ek⟩:=hi.get (d9 hj)
  rw[ek] at w1 w2
  obtain⟨t,et⟩:=w1.Mx
  obtain⟨t',et'⟩:=w2.Mx
  rw[et,et']
  have:=SeqAt.EqAt.int_int (A:=F.A.in1) (s:=s') k t k t'
  simpa using this)
end
noncomputable def VK(a b:aC):ae Nat:=aX a (aX b [0,1] [0]) (aX b [1] [])
def tS(led a b:aC):SetTable:={mask:=7,place:=(VK a b).toArray,dummies:=#[],finger:=0,led:=led,moves:=0,plain:=true}
noncomputable def eS(a b:aC)(t u:kq):bD (Int×ak):=aX a (aX b #[(0, .int 0 t),(1, .int 1 u)] #[(0, .int 0 t)]) (aX b #[(1, .int 1 u)] #[])
def oS(led a b:aC)(t u:kq)(ep:Nat):Obj:={cls:= .type "set",dict:=none,data:= .set (eS a b t u) ep (tS led a b),slots:=#[]}
def SJ(led:aC)(h:Heap)(S:au)(a b:aC):Prop:=∃t u ep,h.get? S=af (oS led a b t u ep)
theorem lay0{led b:aC}{t u x:kq}:layNew (tS led false b) (eS false b t u) 0 (.int 0 x)=(eS true b x u,tS led true b,false,false):=by
 cases b<;>kernel_rfl
theorem acw{led a:aC}{t u x:kq}:layNew (tS led a false) (eS a false t u) 1 (.int 1 x)=(eS a true t x,tS led a true,false,false):=by
 cases a<;>kernel_rfl
theorem full{led a b:aC}:(tS led a b).tooFull=false:=by
 cases a<;>cases b<;>kernel_rfl
theorem szS{a b:aC}{t u:kq}:(eS a b t u).size<=2:=by
 cases a<;>cases b<;>exact aQ rfl
theorem wv{led a b:aC}{t u:kq}:(tS led a b).fits (eS a b t u).size=true:=by
 cases a<;>cases b<;>kernel_rfl
section
variable{prog:aK}{w:bw}{A:bn}{E:ak->ar->Prop}{s:ar}
theorem elS{a b:aC}{t u:kq}:ElemsOf (cE prog w) (eS a b t u).toList:=by
 intro e he
 have h:e=(0, .int 0 t)\/e=(1, .int 1 u):=by
  cases a<;>cases b<;>simp [eS] at he
  ·exact .inr he
  ·exact .inl he
  ·exact he
 rcases h with rfl|rfl
 ·exact⟨⟨0,vP _ _ _ _,rfl⟩,rfl⟩
 ·exact⟨⟨1,vP _ _ _ _,rfl⟩,rfl⟩
theorem Gd{S:au}{led a b a' b':aC}{t u t' u' x:kq}{v:Int}{ep:Nat}{Q:aC->ar->Prop}(ho:s.heap.get? S=af (oS led a b t u ep))
  (hf:(eS a b t u).toList.findIdx? (λ e=>(cE prog w).is v e.2)=none) (hl:layNew (tS led a b) (eS a b t u) v (.int v x)=(eS a' b' t' u',tS led a' b',false,false)) (hh:(cE prog w).hash v=v)
  (h:∀h',kZ S s.heap h'->h'.get? S=af (oS led a' b' t' u' (ep+1))->Q true {s with heap:=h'}):
  aH (aE prog w) A (rM S (.int v x) ((cE prog w).hash v)) Q E s:=by
 unfold rM setAddHashedIn
 refine bU (aj (lO ho rfl wv ?_))
 dsimp only
 rw[byScan_of (knd:=cE prog w) rfl (aT szS (by decide)) elS]
 simp only[↓zA]
 unfold setAddByScan
 refine aj ?_
 refine aj (mC ?_)
 refine aj (wpAny_setScan_of (vP _ _ _ _) ho rfl wv elS ?_)
 rw[hf]
 dsimp only
 rw[hh,hl]
 dsimp only
 refine aj (aw ?_)
 rw[show(tS led a' b').plain=true from rfl]
 simp only[↓zA]
 refine aj ?_
 rw[hashByValue_scannable 8 rfl]
 refine aw ?_
 rw[show plainKind (.int v x)=true from rfl]
 simp only[↓zA]
 refine aj (wpAny_storeSet_of ho rfl ?_ (aG szS (by rw[dZ]; decide)))
 rw[full]
 simp only[m7,te,↓zA]
 refine aw ?_
 dsimp only
 refine aw (h _ (dF _ _ _) ?_)
 exact dK (Obj.putSet (eS a' b' t' u') (tS led a' b')) ho rfl
theorem zG{S:au}{led a b:aC}{t u x:kq}{v:Int}{ep i:Nat}{Q:aC->ar->Prop}(ho:s.heap.get? S=af (oS led a b t u ep))
  (hf:(eS a b t u).toList.findIdx? (λ e=>(cE prog w).is v e.2)=af i) (h:Q false s):
  aH (aE prog w) A (rM S (.int v x) ((cE prog w).hash v)) Q E s:=by
 unfold rM setAddHashedIn
 refine bU (aj (lO ho rfl wv ?_))
 dsimp only
 rw[byScan_of (knd:=cE prog w) rfl (aT szS (by decide)) elS]
 simp only[↓zA]
 unfold setAddByScan
 refine aj ?_
 refine aj (mC ?_)
 refine aj (wpAny_setScan_of (vP _ _ _ _) ho rfl wv elS ?_)
 rw[hf]
 dsimp only
 exact aw (aw h)
theorem W7{S:au}{led a b:aC}{x:kq}{v:Int}{Q:aC->ar->Prop}(hv:v=0\/v=1)(hS:SJ led s.heap S a b)
  (h:∀r h',kZ S s.heap h'->SJ led h' S (a||v==0) (b||v==1)->Q r {s with heap:=h'}):
  aH (aE prog w) A (rM S (.int v x) ((cE prog w).hash v)) Q E s:=by
 obtain⟨t,u,ep,ho⟩:=id hS
 rcases hv with rfl|rfl
 ·cases a with
  |true=>
   refine zG (i:=0) ho (by cases b<;>rfl) ?_
   have:=h false s.heap (qr _ _) (by cases b<;>exact hS)
   exact this
  |false=>
   refine Gd (a':=true) (b':=b) (t':=x) (u':=u) ho (by cases b<;>rfl) lay0 rfl λ h' sb e=>h true h' sb ?_
   cases b<;>exact⟨_,_,_,e⟩
 ·cases b with
  |true=>
   cases a with
   |true=>exact zG (i:=1) ho rfl (h false s.heap (qr _ _) hS)
   |false=>exact zG (i:=0) ho rfl (h false s.heap (qr _ _) hS)
  |false=>
   refine Gd (a':=a) (b':=true) (t':=t) (u':=x) ho (by cases a<;>rfl) acw rfl λ h' sb e=>h true h' sb ?_
   cases a<;>exact⟨_,_,_,e⟩
noncomputable def seen(val:Nat->Int)(k:Int):Nat->aC
 |0=>false
 |i+1=>seen val k i||val i==k
def SV(led:aC)(val:Nat->Int)(i:Nat)(h:Heap)(S:au):Prop:=SJ led h S (seen val 0 i) (seen val 1 i)
theorem Ng{R:iQ->ar->Prop}{I:au}{fp wr:ae au}{G:bD d7->bD d7->Prop}{n:Nat}{P:Nat->ak->Prop}{St:Nat->ar->Prop}{led:aC}
  (W:WalksS prog w A.in1 I fp wr G n P St) (S:au) (hSf:S∉fp) (val:Nat->Int) (LC:∀i v,P i v->(val i=0\/val i=1)/\∃t,v= .int (val i) t):
  ∀(k i:Nat) (s:ar),n - i=k->i<=n->St i s->SV led val i s.heap S->
   (∀s',Moved (S::wr) G s s'->SV led val n s'.heap S->R (.ok (.ret .none)) s')->
   codeAny (aE prog w) A (.builtin "set.update.loop" ⟨[.ref S, .ref I],[]⟩) R s:=by
 have hSw:S∉wr:=λ h=>hSf (W.sub _ h)
 have Ae:∀b∈wr,b∈S::wr:=λ b hb=>aP _ hb
 intro k
 induction k with
 |zero=>
  intro i s hk hi hst hS hR
  have hin:i=n:=by omega
  subst hin
  refine k5 oB ?_
  rw[eB iJ _]
  show aH _ A.in1 (gL (.ref I)>>=_) _ _ s
  refine aj (W.done s _ _ hst λ s' hm=>?_)
  show aH _ A.in1 (ret c_) _ _ s'
  exact aw (hR s' (hm.mono Ae) (by
   obtain⟨t,u,ep,ho⟩:=hS
   exact⟨t,u,ep,hm.heap S _ hSw ho⟩))
 |succ k ih=>
  intro i s hk hi hst hS hR
  have IL:i < n:=by omega
  refine k5 oB ?_
  rw[eB iJ _]
  show aH _ A.in1 (gL (.ref I)>>=_) _ _ s
  refine aj (W.item i s _ _ IL hst λ v s' hP acb hm=>?_)
  obtain⟨hv,t,rfl⟩:=LC i v hP
  have X3:SV led val i s'.heap S:=by
   obtain⟨t,u,ep,ho⟩:=hS
   exact⟨t,u,ep,hm.heap S _ hSw ho⟩
  show aH _ A.in1 (holding [eC (val i) t] (setAdd S (.int (val i) t))>>=_) _ _ s'
  refine aj (bU ?_)
  unfold setAdd
  refine bU ?_
  refine aj ((cE prog w).pyHash (k:=val i) (vP _ _ _ _) ?_)
  refine W7 (s:={s' with toks:=s'.toks+1}) hv X3 λ r h' Sm hS2=>?_
  refine aw ⟨kV iJ _,ih (i+1) _ (by omega) IL (W.frame _ s' _ _ acb (xE _) λ b hb o e=>?_) hS2 λ s'' abW abK=>?_⟩
  ·rw[Sm.2 b (λ h:b=S=>hSf (by rw[← h]; exact hb))]; exact e
  ·refine hR s'' (Moved.trans W.gtrans ((hm.mono Ae).then_heap (xE _) λ b o hb e=>?_) abW) abK
   rw[Sm.2 b (λ h:b=S=>hb (by rw[h]; exact aR))]; exact e
noncomputable def kX(w:bw):aC:=!w.params.followText "set-order"
theorem Q0{a:ak}{Q₁:ak->ar->Prop}
  (h:Q₁ (.ref s.heap.objs.size) {s with heap:=s.heap.push {cls:= .type "set",dict:=none,data:= .set #[] 0 (.fresh 0 0 (kX w))}}):
  codeAny (aE prog w) A (.call (.builtin "set.__new__") ⟨[.type "set",a],[]⟩) (wants Q₁ E) s:=by
 refine Bs ?_
 show aH _ A.in1 (do iw "set.__new__" ⟨[.type "set",a],[]⟩; qM (.builtin "set.__new__" ⟨[.type "set",a],[]⟩)) _ _ s
 refine aj (bu (PySem.F.newCall_set_1 a) (aw ⟨kV A2 _,k5 PySem.F.entry_set_new ?_⟩))
 rw[eB A2 _]
 unfold b8.«set.__new__» Builtin.Frozenset.newClass
 have Ae:=sub_set_self
 obtain⟨hp,g,d,tk,os⟩:=s
 dsimp only
 wp_walk
 refine iA (aw ?_)
 dsimp only
 simp only[newObj]
 refine aj (wpAny_alloc (aw ?_))
 exact aw h
theorem Fy{S l:au}{items:bD ak}{val:Nat->Int}{R:iQ->ar->Prop}(hh:A.handled=none)(hS:s.heap.get? S=af (oS (kX w) false false default default 0))(hl:s.heap.IsList l items)
  (hlS:l < S) (LC:∀(i:Nat) (v:ak),items[i]?=af v->(val i=0\/val i=1)/\∃t,v= .int (val i) t)
  (h:∀h' tk,SV (kX w) val items.size h' S->(∀b o,b≠S->s.heap.get? b=af o->h'.get? b=af o)->R (.ok (.ret .none)) {s with heap:=h',toks:=tk}):
  aH (aE prog w) A.in1 (b8.«set.__init__» ⟨[.ref S, .ref l],[]⟩) (λ fin s'=>match fin with | .done f=>R (.ok f) s' | .again c'=>c'.quiet=true/\codeAny (aE prog w) A c' R s') (λ e s'=>R (.error e) s') s:=by
 obtain⟨ol,hol,hcl,nl,hdl⟩:=id hl
 have hT:s.TypeIs (.ref S) "set":=⟨_,hS,rfl⟩
 have hTl:s.TypeIs (.ref l) "list":=⟨_,hol,hcl⟩
 have Ae:=rF.sub
 have agj:=PySem.F.sub_list_set
 have agi:=PySem.F.sub_list_frozenset
 have IM:(cR "list"==cR "dict")=false:=by decide
 unfold b8.«set.__init__» noKeywords Builtin.Frozenset.updateFrom
 generalize hPI:iz=PI
 wp_walk
 subst hPI
 refine xR hl (aj (wpAny_runValue ?_))
 have hSs:S < s.heap.objs.size:=b9 hS
 refine Ng (led:=kX w) ((Walks.list (show A.in1.in1.handled=none from hh) _ l (dO (b_ hlS hSs)) items).toS) S (λ m=>(bQ.mp m).elim (dO hSs) λ m=>uO hlS (be.mp m))
  val LC items.size 0 _ (Nat.sub_zero _) (oA _) ⟨⟨_,aN _ rfl,rfl,rfl⟩,hl.push _⟩ ⟨default,default,0,aA _ hS⟩ λ s' hm X3=>?_
 obtain⟨h',g',d',tk',os'⟩:=s'
 obtain rfl:g'=s.gens:=hm.gens
 obtain rfl:d'=s.drawn:=hm.drawn
 obtain rfl:os'=s.os:=hm.os
 refine aw ?_
 show aH _ _ (ret c_) _ _ _
 exact aw (h h' tk' X3 λ b o n e=>hm.heap b o (λ m=>(bQ.mp m).elim n λ m=>dO (b9 e) (be.mp m)) (aA _ e))
theorem Ey{l:au}{items:bD ak}{val:Nat->Int}{Q:ak->ar->Prop}
  (hh:A.handled=none) (hl:s.heap.IsList l items) (LC:∀(i:Nat) (v:ak),items[i]?=af v->(val i=0\/val i=1)/\∃t,v= .int (val i) t)
  (h:∀(h':Heap) (tk:Nat),SV (kX w) val items.size h' s.heap.objs.size->
   (∀b o,s.heap.get? b=af o->h'.get? b=af o)->Q (.ref s.heap.objs.size) {s with heap:=h',toks:=tk}):
  aH (aE prog w) A (call (.type "set") [.ref l]) Q dw s:=by
 refine X.back (X.yG (Q₁:=λ obj s₁=>obj= .ref s.heap.objs.size/\s₁={s with heap:=s.heap.push (oS (kX w) false false default default 0)}) rF (PySem.F.typeCall_set_1 (.ref l)) (λ A'=>Q0 ⟨rfl,rfl⟩) λ obj s₁ z=>?_)
 obtain⟨rfl,rfl⟩:=z
 have hS:(s.heap.push (oS (kX w) false false default default 0)).get? s.heap.objs.size=af (oS (kX w) false false default default 0):=aN _ rfl
 obtain⟨ol,hol,hl2⟩:=hl
 refine⟨⟨_,hS,rfl⟩,X.any (vQ (codeAny_call_builtin rF.init.plain PySem.F.entry_set_init (check_set_init_1 ⟨_,hS,rfl⟩ ?_)))⟩
 refine Fy (A:=A.in1) (R:=λ r s'=>match r with | .ok (.ret v)=>v= .none/\Q (.ref s.heap.objs.size) s' | .ok _=>False | .error e=>False) hh hS ⟨ol,aA _ hol,hl2⟩ (b9 hol) LC λ h' tk X3 hk=>?_
 exact⟨rfl,h h' tk X3 λ b o e=>hk b o (dO (b9 e)) (aA _ e)⟩
end
theorem wn:fA table "set.__iter__"=af b8.«frozenset.__iter__»:=
 D9 (id':="frozenset.__iter__") (by kernel_rfl) rfl (by decide+kernel) (by kernel_rfl)
theorem yb:fA table "set_iterator.__iter__"=af b8.«dict_keyiterator.__iter__»:=
 D9 (id':="dict_keyiterator.__iter__") (by kernel_rfl) rfl (by decide+kernel) (by kernel_rfl)
theorem rb:fA table "set_iterator.__next__"=af b8.«set_iterator.__next__»:=eM (by kernel_rfl)
theorem i4:Bq "set_iterator" "__next__" "set_iterator.__next__":=
 .of (owner:="set_iterator") (n:="__next__") (by rw[bF,aZ]; kernel_rfl) (by decide+kernel) (by decide+kernel) (by decide+kernel)
  (by first|exact .inl (by decide+kernel)|exact .inr (by decide+kernel)) (by rw[cj]; kernel_rfl)
theorem s6:Bq "set_iterator" "__iter__" "set_iterator.__iter__":=
 .of (owner:="set_iterator") (n:="__iter__") (by rw[bF,aZ]; kernel_rfl) (by decide+kernel) (by decide+kernel) (by decide+kernel)
  (by first|exact .inl (by decide+kernel)|exact .inr (by decide+kernel)) (by rw[cj]; kernel_rfl)
theorem Dc:Manifest.owners.lookup (String.ofList ['r','o','t','a','r','e','t','i','_','t','e','s'].reverse)=af Manifest.sig_set_iterator:=by kernel_rfl
theorem sr(a:ak):hU "set_iterator.__next__" ⟨[a],[]⟩:=by
 unfold hU; rw[signature?_of (id:="set_iterator.__next__") (n:=['_','_','t','x','e','n','_','_']) (o:=['r','o','t','a','r','e','t','i','_','t','e','s']) (by kernel_rfl) Dc]; kernel_rfl
theorem zK(a:ak):hU "set_iterator.__iter__" ⟨[a],[]⟩:=by
 unfold hU; rw[signature?_of (id:="set_iterator.__iter__") (n:=['_','_','r','e','t','i','_','_']) (o:=['r','o','t','a','r','e','t','i','_','t','e','s']) (by kernel_rfl) Dc]; kernel_rfl
def WD(led a b:aC)(i:Nat):Nat:=aX led ((0::(VK a b).map (·+1)).getD i 0) 0
def u6(w:bw)(S:au)(a b:aC)(t u:kq)(ep:Nat):bD (Int×ak):=aX (kX w) (eS a b t u) (pickOrder (w.params.setOrder S ep) (eS a b t u))
def Nt(a b:aC):Nat:=(VK a b).length
theorem AN{a b:aC}{t u:kq}:(eS a b t u).size=Nt a b:=by cases a<;>cases b<;>rfl
def JV(led:aC)(h:Heap)(I S:au)(a b:aC)(ep i:Nat):Prop:=∃o,h.get? I=af o/\o.cls= .type "set_iterator"/\o.data= .fields #[.int (WD led a b i:Int) 0, .int i 0, .ref S, .int (Nt a b:Int) 0, .int ep 0]
section
variable{prog:aK}{w:bw}{A:bn}{E:ak->ar->Prop}{s:ar}
theorem xh(nm:cS)(v:ak):slotArgs nm 0 ⟨[v],[]⟩=pure (v,[]):=rfl
theorem IX{S:au}{led a b:aC}{t u:kq}{ep:Nat}{Q:aC->ar->Prop}(ho:s.heap.get? S=af (oS led a b t u ep))(h:Q false s):aH (aE prog w) A (setDrawn S) Q E s:=by
 unfold setDrawn setsByText
 refine aj (lO ho rfl wv ?_)
 refine aj (aj (iA (aw ?_)))
 refine aw ?_
 have e:∀x:aC,(x&&false)=false:=λ x=>m7 x
 show Q (!_&&false) s
 rw[e]
 exact h
theorem LN{S:au}{led a b:aC}{t u:kq}{ep:Nat}{Q:ak->ar->Prop}(ho:s.heap.get? S=af (oS led a b t u ep))
  (hQ:Q (.ref s.heap.objs.size) {s with heap:=s.heap.push {cls:= .type "set_iterator",data:= .fields #[.int 0 0, .int 0 0, .ref S, .int (Nt a b:Int) 0, .int ep 0]}}):
  aH (aE prog w) A (iz (.ref S)) Q E s:=by
 have hT:s.TypeIs (.ref S) "set":=⟨_,ho,rfl⟩
 refine xS hT A3 (cA A3 hT wn ?_ (PySem.F.args_set_iter_1 _))
 unfold b8.«frozenset.__iter__» Builtin.Frozenset.slot0
 refine aj (aj (bu (xh _ _) (bu (a:=S) rfl (aj ?_))))
 unfold Builtin.Frozenset.sizeOf
 refine aj (uS ho rfl wv (aw ?_))
 refine aj (IX ho ?_)
 rw[bC aW]
 refine aj (aw ?_)
 refine aj (wpAny_setEpoch_of ho rfl wv ?_)
 refine aj (cP (aw ⟨_,rfl,"set_iterator",_,⟨_,aN _ rfl,rfl⟩,i4.lookup,?_⟩))
 exact(ah (λ n:Nat=>Q (.ref s.heap.objs.size) {s with heap:=s.heap.push {cls:= .type "set_iterator",data:= .fields #[.int 0 0, .int 0 0, .ref S, .int (n:Int) 0, .int ep 0]}}) AN).mpr hQ
theorem zn{S:au}{a b:aC}{t u:kq}{ep i:Nat}{Q:aq (ak×Nat)->ar->Prop}(hi:i<=Nt a b)(ho:s.heap.get? S=af (oS (kX w) a b t u ep))
  (h:Q (((u6 w S a b t u ep)[i]?).map λ e=>(e.2,WD (kX w) a b (i+1))) s):aH (aE prog w) A (setNext S (WD (kX w) a b i) i ep) Q E s:=by
 unfold u6 kX at h
 unfold kX at ho ⊢
 unfold setNext setsByText
 refine aj (lO ho rfl wv ?_)
 refine aj (aj (iA (aw ?_)))
 dsimp only
 cases hb:w.params.followText "set-order" with
 |true=>
  rw[hb] at h ho
  rw[show(aE prog w).w.params.followText "set-order"=true from hb]
  rw[dq rfl,lP,bC aW]
  refine aj ?_
  unfold setWalk setsByText
  refine aj (lO ho rfl wv ?_)
  refine aj (aj (iA (aw ?_)))
  dsimp only
  rw[show(aE prog w).w.params.followText "set-order"=true from hb]
  rw[dq rfl]
  refine aj (iA (aw ?_))
  exact aw h
 |false=>
  rw[hb] at h ho
  rw[show(aE prog w).w.params.followText "set-order"=false from hb]
  rw[bC aW]
  refine Bu (λ X4=>bt (show(false&&_)=true from X4) (by rw[Bool.false_and]; exact aW)) (λ aa=>?_)
  refine aj (bu (a:=()) rfl ?_)
  refine aw ?_
  have h2:Nt a b<=2:=by cases a<;>cases b<;>decide
  have Ya:i=0\/i=1\/i=2:=by omega
  rcases Ya with rfl|rfl|rfl<;>cases a<;>cases b<;>first|exact h|exact bt hi (by decide)
theorem next_item{I S:au}{a b:aC}{t u:kq}{ep i:Nat}{e:Int×ak}{Q:aq ak->ar->Prop}(hI:JV (kX w) s.heap I S a b ep i)(hi:i<=Nt a b)(ho:s.heap.get? S=af (oS (kX w) a b t u ep))(he:(u6 w S a b t u ep)[i]?=af e)
  (hQ:∀h',JV (kX w) h' I S a b ep (i+1)->vM I s.heap h'->Q (af e.2) {s with heap:=h'}):aH (aE prog w) A (gL (.ref I)) Q E s:=by
 obtain⟨o,h1,h2,h3⟩:=hI
 have hT:s.TypeIs (.ref I) "set_iterator":=⟨o,h1,h2⟩
 unfold gL
 refine aj (kW (de (name:=bT "__next__") hT i4
  (cA i4 hT rb ?_ (sr _))))
 unfold b8.«set_iterator.__next__»
 refine aj (bu (xh _ _) ?_)
 refine aj (Ec h1 h3 ?_)
 dsimp only
 refine aj (uS ho rfl wv ?_)
 rw[AN,lP,bC aW]
 refine aj (zn (ep:=ep) (i:=i) hi ho ?_)
 rw[he]
 dsimp only[ed]
 refine aj (oG h1 h3 (show _ < 5 from by decide) ?_)
 have g1:(s.heap.update I (Obj.mapFields (·.setIfInBounds 0 (nC ↑(WD (kX w) a b (i+1)))))).get? I=af (Obj.mapFields (·.setIfInBounds 0 (nC ↑(WD (kX w) a b (i+1)))) o):=dK _ h1 (Obj.isFreed_of_fields (Obj.data_mapFields h3 _))
 refine aj (oG (s:={s with heap:=s.heap.update I (Obj.mapFields (·.setIfInBounds 0 (nC ↑(WD (kX w) a b (i+1)))))}) g1 (Obj.data_mapFields h3 _) (by simp) ?_)
 refine aw ⟨_,rfl,aw (hQ _ ⟨_,dK _ g1 (Obj.isFreed_of_fields (Obj.data_mapFields (Obj.data_mapFields h3 _) _)),(Obj.cls_mapFields ..).trans ((Obj.cls_mapFields ..).trans h2),?_⟩ ?_)⟩
 ·rw[Obj.data_mapFields (Obj.data_mapFields h3 _)]; rfl
 ·exact λ b' o' hb' e'=>((dF ..).trans (dF ..)).extBut b' o' hb' e'
theorem QZ{I S:au}{a b:aC}{t u:kq}{ep i:Nat}{Q:aq ak->ar->Prop}(hh:A.handled=none)(hI:JV (kX w) s.heap I S a b ep i)(hi:i<=Nt a b)(ho:s.heap.get? S=af (oS (kX w) a b t u ep))(he:(u6 w S a b t u ep)[i]?=none)
  (hQ:∀h',vM I s.heap h'->Q none {s with heap:=h'}):aH (aE prog w) A (gL (.ref I)) Q E s:=by
 obtain⟨o,h1,h2,h3⟩:=hI
 have hT:s.TypeIs (.ref I) "set_iterator":=⟨o,h1,h2⟩
 unfold gL
 refine aj (kW (de (name:=bT "__next__") hT i4
  (cA i4 hT rb ?_ (sr _))))
 unfold b8.«set_iterator.__next__»
 refine aj (bu (xh _ _) ?_)
 refine aj (Ec h1 h3 ?_)
 dsimp only
 refine aj (uS ho rfl wv ?_)
 rw[AN,lP,bC aW]
 refine aj (zn (ep:=ep) (i:=i) hi ho ?_)
 rw[he]
 dsimp only[ed]
 refine aj (oG h1 h3 (show _ < 5 from by decide) ?_)
 show aH _ _ (Ea (.type "StopIteration") []>>=_) _ _ _
 refine aj ?_
 unfold Ea newTuple
 refine aj (cP ?_ (by size_fits))
 refine aj (m:=jH _ _) (bu (a:=c_) (by first|rfl|(simp only[jH]; rfl)) ?_)
 refine cP ?_ (by size_fits)
 unfold raiseNew
 refine aj (wpAny_handled ?_)
 rw[show A.in1.handled=none from hh]
 refine aj (aw (wpAny_throw ?_))
 refine aj (eO (T:="StopIteration") (b:=true) ⟨_,aN _ rfl,rfl⟩ D_ ?_)
 exact aw (hQ _ (((dF ..).extBut.push _).push _))
theorem M7{I S:au}{a b:aC}{ep i:Nat}{led:aC}{Q:ak->ar->Prop}(hI:JV led s.heap I S a b ep i)(h:Q (.ref I) s):aH (aE prog w) A (iz (.ref I)) Q E s:=by
 obtain⟨o,h1,h2,h3⟩:=hI
 have hT:s.TypeIs (.ref I) "set_iterator":=⟨o,h1,h2⟩
 refine xS hT s6 (cA s6 hT yb ?_ (zK _))
 show aH _ _ (ret (.ref I)) _ _ s
 exact aw ⟨_,rfl,"set_iterator",_,hT,i4.lookup,h⟩
theorem Sf{α:Type}{f:Nat->Nat}{n k j:Nat}{l:ae α}{out:bD α}(e:f k % l.length=j):rJ f (n+1) k l out=match l[j]? with|some x=>rJ f n (k+1) (l.eraseIdx j) (out.push x)|none=>out:=
 ah (λ j=>match l[j]? with|some x=>rJ f n (k+1) (l.eraseIdx j) (out.push x)|none=>out) e
theorem Ac{α:Type}(f:Nat->Nat)(k:Nat)(x:α)(out:bD α):rJ f 1 k [x] out=out.push x:=Sf (l:=[x]) (Nat.mod_one _)
theorem wT(S:au)(a b:aC)(t u:kq)(ep:Nat):(u6 w S a b t u ep).toList.Perm (eS a b t u).toList:=by
 unfold u6
 cases kX w with
 |true=>exact .refl _
 |false=>
  show(pickOrder (w.params.setOrder S ep) (eS a b t u)).toList.Perm _
  generalize w.params.setOrder S ep=f
  cases a<;>cases b
  ·exact .refl _
  ·exact .of_eq (ah pt (Ac f 0 ((1:Int),eC 1 u) #[]))
  ·exact .of_eq (ah pt (Ac f 0 ((0:Int),eC 0 t) #[]))
  ·have z {j:Nat} (e:f 0 % 2=j):=ah pt (Sf (n:=1) (l:=[((0:Int),eC 0 t),((1:Int),eC 1 u)]) (out:=#[]) e)
   exact(Nat.mod_two_eq_zero_or_one (f 0)).elim (λ e=> .of_eq ((z e).trans (ah pt (Ac f 1 _ _)))) λ e=>(List.Perm.of_eq ((z e).trans (ah pt (Ac f 1 _ _)))).trans (.swap _ _ _)
end
section
variable{prog:aK}{w:bw}{A:bn}{E:ak->ar->Prop}{s:ar}
theorem vB{S:au}{a b:aC}{t u:kq}{ep:Nat}:(u6 w S a b t u ep).size=Nt a b:=by
 rw[← AN (t:=t) (u:=u),← bh,(wT S a b t u ep).length_eq,bh]
theorem Ly{S:au}{led a b:aC}{t u:kq}{ep:Nat}{Q:aC->ar->Prop}(ho:s.heap.get? S=af (oS led a b t u ep))(h:Q false s):aH (aE prog w) A (Builtin.List.listLengthHint (.ref S)) Q E s:=by
 have hT:s.TypeIs (.ref S) "set":=⟨_,ho,rfl⟩
 unfold Builtin.List.listLengthHint
 refine aj (cX hT PySem.F.slot_set_len.lookup ?_)
 generalize Wx:("set.__len__":cS)=id0
 wp_delta
 rw[show splitId id0=af ("set","__len__") from by subst Wx; decide+kernel]
 subst Wx
 refine aj (eO (T:="set") (b:=true) hT (by rw[cj]; kernel_rfl) ?_)
 refine Bu (λ X4=>bt X4 (by decide)) (λ aa=>?_)
 refine Bu (λ aa=>?_) (λ X4=>bt (by decide+kernel) X4)
 refine aj (j6 hT ?_)
 exact aw h
theorem Q7{S:au}{a b:aC}{t u:kq}{ep:Nat}:KdlSrc prog w "set" S S (Nt a b) (λ i v=>∃e,(u6 w S a b t u ep)[i]?=af e/\v=e.2) (λ h=>h.get? S=af (oS (kX w) a b t u ep)) where
 type:=λ aa hm=>⟨_,hm,rfl⟩
 there:=λ aa hm=>⟨b9 hm,b9 hm⟩
 keep:=λ aa aa hm hk=>hk S (.inl rfl) _ hm
 notList:=by decide
 notTuple:=by decide
 hint:=λ aa aa aa aa hm hq=>Ly hm hq
 iter:=λ A s hh hm=>⟨_,λ i h=>JV (kX w) h s.heap.objs.size S a b ep i/\h.get? S=af (oS (kX w) a b t u ep)/\i<=Nt a b,(λ aa aa hq=>LN hm hq),{
   sub:=λ b hb=>by simp at hb; simp [hb]
   frame:=λ i h h' st hk=>⟨let ⟨o,x,y⟩:=st.1; ⟨o,hk _ (by simp) o x,y⟩,hk S (by simp) _ st.2.1,st.2.2⟩
   item:=λ i s' Q E hi st hQ=>by
    have IM:S≠s.heap.objs.size:=dO (b9 hm)
    have IL:i < (u6 w S a b t u ep).size:=by rw[vB]; exact hi
    refine next_item st.1 st.2.2 st.2.1 (e6 IL) λ h' hI hx=>?_
    exact hQ _ h' s'.toks ⟨_,e6 IL,rfl⟩ ⟨hI,hx S _ IM st.2.1,hi⟩ λ b o hb e=>hx b o (λ h=>hb (by simp [h])) e
   done:=λ s' Q E st hQ=>QZ hh st.1 st.2.2 st.2.1 (Bk (by rw[vB]; exact cF _)) λ h' he'=>hQ h' s'.toks λ b o hb e=>he' b o (λ h=>hb (by simp [h])) e
   self:=λ aa aa aa aa st hQ=>M7 st.1 hQ},
  ⟨⟨_,aN _ rfl,rfl,by cases kX w<;>rfl⟩,aA _ hm,oA _⟩⟩
noncomputable def Jg(a b:aC):ae Int:=aX a (aX b [0,1] [0]) (aX b [1] [])
theorem T4{a b:aC}{t u:kq}:(eS a b t u).toList.map (·.1)=Jg a b:=by cases a<;>cases b<;>rfl
theorem T5{a b:aC}{t u:kq}{e:Int×ak}(h:e∈(eS a b t u).toList):∃x,e.2= .int e.1 x:=by
 have h:e=(0, .int 0 t)\/e=(1, .int 1 u):=by
  cases a<;>cases b<;>simp [eS] at h
  ·exact .inr h
  ·exact .inl h
  ·exact h
 rcases h with rfl|rfl<;>exact⟨_,rfl⟩
theorem ints_of:∀{l:ae (Int×ak)} {vs:ae ak},(∀e∈l,∃x,e.2=eC e.1 x)->vs.length=l.length->(∀(j:Nat) (v:ak),vs[j]?=af v->∃e,l[j]?=af e/\v=e.2)->cx (l.map (·.1)) vs
 |[],vs,_,h,_=>cZ.mp h
 |e::r,[],_,h,_=>by cases h
 |e::r,v::vs,hl,h,k=>by
  obtain⟨e',q,rfl⟩:=k 0 v rfl
  cases q
  obtain⟨x,hx⟩:=hl e aR
  exact⟨x,vs,by rw[hx],ints_of (λ e h=>hl e (aP _ h)) (by simpa using h) λ j v h=>k (j+1) v (by simpa using h)⟩
theorem uV{S:au}{a b:aC}{t u:kq}{ep:Nat}{Q:ak->ar->Prop}(hh:A.handled=none)(ho:s.heap.get? S=af (oS (kX w) a b t u ep))
  (h:∀h' tk vs (o:au) (n:Nat),cx (Jg a b) vs->s.heap.get? o=none->h'.get? o=af {cls:= .type "list",dict:=none,data:= .seq vs.toArray n,slots:=#[]}->(∀b x,s.heap.get? b=af x->h'.get? b=af x)->Q (.ref o) {s with heap:=h',toks:=tk}):
  aH (aE prog w) A (call (.builtin "sorted") [.ref S]) Q E s:=by
 refine ny kind_sorted plain_sorted entry_sorted (args_sorted1 _) ?_
 unfold b8.«sorted»
 refine aj (m:=checkCount "sorted" 1 1 _) (aw ?_)
 have hz:Nt a b<=2:=by cases a<;>cases b<;>decide
 refine aj (kdu_collect (A:=A.in1) (Q7 (a:=a) (b:=b) (t:=t) (u:=u) (ep:=ep)) hh ho (by rw[dZ]; omega) λ h' tk acc hk Ln=>?_)
 have hl:acc.toList.length=(u6 w S a b t u ep).toList.length:=by rw[bh,bh,vB]; exact Ln.1
 have hl2:acc.toList.length<=2:=by rw[hl,bh,vB]; exact hz
 refine aj (wpAny_newList ?_ (by rw[dZ]; omega))
 have hI:cx ((u6 w S a b t u ep).toList.map (·.1)) acc.toList:=ints_of (λ e he=>T5 ((wT S a b t u ep).mem_iff.mp he)) hl λ j v e=>by
  obtain⟨e',q,z⟩:=Ln.2 j v (by rw[← bP]; exact e)
  exact⟨e',by rw[bP]; exact q,z⟩
 have hP:((u6 w S a b t u ep).toList.map (·.1)).Perm (Jg a b):=by
  have:=(wT (w:=w) S a b t u ep).map (·.1)
  rwa [T4] at this
 have JM:(h'.push (seqObj "list" acc.toList.toArray 0)).get? h'.objs.size=af (seqObj "list" acc.toList.toArray 0):=aN _ rfl
 have Lv:s.heap.get? h'.objs.size=none:=by
  cases e:s.heap.get? h'.objs.size with
  |none=>rfl
  |some o=>exact bt (b9 (hk _ _ e)) (fw _)
 refine aj (bU (cA slot_list_sort ⟨_,JM,rfl⟩ entry_list_sort (list_sort_tree JM hI.ints (by omega) λ out Bj a1 a2 a3=>⟨_,rfl,?_⟩) (args_list_sort _)))
 obtain⟨n,hn⟩:=sortedHeap_at (vs:=acc.toList) (out:=out) JM
 have e2:Bj=Jg a b:=by
  rw[PySem.W.eq_sortI (a2.trans hP) a3]
  cases a<;>cases b<;>decide
 refine aw ⟨_,rfl,h _ tk out.toList h'.objs.size n (by rw[← e2]; exact cx.Hi a1) Lv (by rw[D0]; exact hn) λ b x q=>?_⟩
 have hb:=b9 (hk _ _ q)
 rw[sortedHeap_old (dO hb) (by rw[size_push']; exact Nat.lt_succ_of_lt hb)]
 exact aA _ (hk _ _ q)
end
theorem cx.at:∀{ns:ae Int} {vs:ae ak},cx ns vs->∀(i:Nat) (v:ak),vs[i]?=af v->ns[i]?=af (ns.getD i 0)/\∃t,v= .int (ns.getD i 0) t
 |[],vs=>λ h=>h.u0 (Q:=λ vs=>∀(i:Nat) (v:ak),vs[i]?=af v->([]:ae Int)[i]?=af (([]:ae Int).getD i 0)/\∃t,v= .int (([]:ae Int).getD i 0) t) λ aa aa e=>cu e
 |n::r,vs=>λ h=>h.uc (Q:=λ vs=>∀(i:Nat) (v:ak),vs[i]?=af v->(n::r)[i]?=af ((n::r).getD i 0)/\∃t,v= .int ((n::r).getD i 0) t) λ t us h i v=>match i with
  |0=>λ q=>⟨rfl,t,(am q).symm⟩
  |i+1=>cx.at h i v
section
variable{P:cC}{ct:Ct}
noncomputable def zo(ns:ae Int):aC:=ns.all λ v=>decide (v=0)||decide (v=1)
def lJ(ns:ae Int):ae Int:=Jg (seen (λ i=>ns.getD i 0) 0 ns.length) (seen (λ i=>ns.getD i 0) 1 ns.length)
def onRow(a:AV)(K:ae Int->Prop):Prop:=match a with
 | .row ns=>K ns
 |_=>False
theorem onRow.u{a:AV}{K:ae Int->Prop}{Q:AV->Prop}(h:onRow a K)(k:∀ns,K ns->Q (.row ns)):Q a:=by
 rcases a with _|_|_|_|_|_|_|_|_|_|_|_|ns|_|_|_|_|_
 case row=>exact k ns h
 all_goals exact h.elim
def M_:vY:=λ a σ K=>onRow a λ ns=>cK (zo ns) (K (.own σ.mem.length) ⟨σ.loc,σ.mem++[.il (lJ ns)]⟩)
noncomputable def Kw:Bf P ct:={nm:="set",f:= .type "set",lY:=λ aa aa aa=>False,jj:=false,hf:=λ aa e=>(nomatch e),snd:=λ aa aa aa aa aa aa aa aa aa aa aa aa h=>h.elim}
theorem Jk{F:Fd}{G:BM}{ρ:ae au}{σ:St}{s:ar}{Kv:AV->St->Prop}{a:AV}{u:ak}(O:gM P ct F)(R:RF F ct.aS G ρ σ s)(va:VR G ρ a u)(h:M_ a σ Kv):
  aH (aE P.prog P.w) F.A (call (.type "set") [u] []) (λ v s'=>aH (aE P.prog P.w) F.A (call (.builtin "sorted") [v] []) (PE F ct.aS G ρ Kv) dw s') dw s:=
 onRow.u (Q:=λ a=>VR G ρ a u->aH (aE P.prog P.w) F.A (call (.type "set") [u] []) (λ v s'=>aH (aE P.prog P.w) F.A (call (.builtin "sorted") [v] []) (PE F ct.aS G ρ Kv) dw s') dw s) h (λ ns h va=>h.u λ hz h=>
  va.Dl (Q:=λ u=>aH (aE P.prog P.w) F.A (call (.type "set") [u] []) (λ v s'=>aH (aE P.prog P.w) F.A (call (.builtin "sorted") [v] []) (PE F ct.aS G ρ Kv) dw s') dw s) λ l o us ho hl hi=>
   Ey (items:=us) (val:=λ i=>ns.getD i 0) O.room.2.2 ⟨o,R.rm.kg _ _ ho,hl.is⟩ (λ i v e=>have q:=hi.at i v (bP.trans e); ⟨(g8.mp (aY.mp hz _ (dB q.1))).imp bg bg,q.2⟩) λ h' tk hS keep=>
    hS.elim λ t z=>z.elim λ u z=>z.elim λ ep z=>uV (s:={s with heap:=h',toks:=tk}) O.room.2.2 z λ h2 tk2 vs2 o2 n2 hi2 ho1 Uz Yt=>
     PE.Ff (ao:= .il (lJ ns)) (s':={s with heap:=h2,toks:=tk2}) R (none_of λ o e=>dh ho1 (keep _ _ e)) Uz ⟨vs2.toArray,⟨_,rfl⟩,(ah (λ k=>cx (Jg (seen (λ i=>ns.getD i 0) 0 k) (seen (λ i=>ns.getD i 0) 1 k)) vs2) (bh.symm.trans hi.length)).mp hi2⟩ (λ b o e=>Yt _ _ (keep _ _ e)) ⟨rfl,rfl,rfl⟩ h) va
def NV(q1 q2:c9)(as:SL P ct)(p2 p1:c9):SE P ct where
 bA:= .Call (.Name "sorted" q1) [.Call (.Name "set" q2) as.bA [] p2] [] p1
 run:=λ σ K=>as.run σ λ vs aI=>one M_ vs aI K
 ch:=OV P ct "sorted" (.builtin "sorted")&&(OV P ct "set" (.type "set")&&as.ch)
 star:=λ aa aa=>rfl
 ok:=λ c F G ρ σ s Kv O R h=>have c1:=aF c; have c2:=aF c1.2
  X.pX (X.any (Ap O R c1.1 (X.ui (Pm:=λ aa=>True) ((iS (xB Kw q2 as p2) qZ).plain _ _) (oU λ aa e=>nomatch e) (X.ll (by exact(xB Kw q2 as p2).star _ _) (X.pX (X.any (Ap O R c2.1
   (X.ui (Pm:=λ aa=>True) (as.plain _ _) (oU λ aa e=>nomatch e) (X.mono (as.ok c2.2 F G ρ σ s _ _ O R h) λ vs s₁ z=>z.u λ dW c8 dx aI fK fh dS va bH=>⟨trivial,va.a1 (Q:=λ vs=>WP P F.A (call (.type "set") vs []) _ s₁) bH λ a u bH vu=>
    X.any (c7 (Jk O dS vu bH) (λ v s' z=>X.any (Bv ⟨trivial,X.any (c7 z (λ aa aa=>PE.up fK fh) λ aa aa z=>z)⟩)) λ aa aa z=>z)⟩)))))))))
end
noncomputable abbrev T(α:Type):=Nat->α×Nat
noncomputable def T.p{α:Type}(a:α):T α:=λ s=>(a,s)
noncomputable def T.b{α β:Type}(x:T α)(f:α->T β):T β:=λ s=>Prod.casesOn (motive:=λ aa=>β×Nat) (x s) f
noncomputable def rd{β:Type}(f:Nat->T β):T β:=λ s=>f (s % 128) (s / 128)
noncomputable def p0:c9:=⟨0,0,0,0⟩
abbrev CE(ct:Ct):=(P:cC)->SE P ct
abbrev CT(ct:Ct):=(P:cC)->ST P ct
abbrev CL'(ct:Ct):=(P:cC)->SL P ct
abbrev CG(ct:Ct):=(P:cC)->TG P ct
abbrev CX(ct:Ct):=(P:cC)->SX P ct
abbrev CS(ct:Ct):=(P:cC)->SS P ct
structure Tr(ct:Ct) where
 e:aB->T (CE ct)
 t:aB->T (CT ct)
 s:ae f0->T (CS ct)
def SB:aB:= .Constant .none 0 p0
def vE:aB->Nat×bI×Nat×ae aB
 | .Name x _=>(1,x,0,[])
 | .Attribute o _ _=>(2,"",0,[o])
 | .Subscript a i _=>(3,"",0,[a,i])
 | .Tuple es k _=>(4,"",k,es)
 | .Call f as _ _=>(5,"",0,f::as)
 | .Lambda _ b _ _=>(6,"",0,[b])
 | .Slice l u _ _=>(7,"",0,[l.getD SB,u.getD SB])
 |_=>(0,"",0,[])
def kd(e:aB):Nat:=(vE e).1
def yI(e:aB):ae aB:=(vE e).2.2.2
def at_(l:ae aB)(i:Nat):aB:=l.getD i SB
noncomputable def cks(n:Nat):CK:=[CK.sn, .N8, .Yj, .YR, .neB].getD (n - 1) .sn
noncomputable def trC(ct:Ct)(k:Nat)(p:c9):Const->CE ct
 | .int i=>λ aa=>ym i p
 | .bool b=>λ aa=>Z9 b k p
 | .str x=>λ aa=>adH x k p
 | .bytes x=>λ aa=>adB x k p
 |_=>λ aa=>zw k p
def trG(ct:Ct)(ns:ae aB->T (ae hJ))(e:aB):T (CG ct):=aX (a_ (kd e) 4) ((ns (yI e)).b λ ns=> .p λ aa=>Nz ns (vE e).2.2.1 e.pos) (rd λ n=> .p λ aa=>xn n e.pos)
def ZU(es:ae aB):T (ae hJ):=l5 (motive:=λ aa=>T (ae hJ)) (.p []) (λ e aa r=>rd λ n=>r.b λ r=> .p ((n,(vE e).2.1,e.pos)::r)) es
def trS(ns:ae (bI×dJ)):T (ae (aq Nat)):=l5 (motive:=λ aa=>T (ae (aq Nat))) (.p []) (λ e aa r=>match e.2 with
 | .local=>r.b λ r=> .p (none::r)
 | .free=>rd λ n=>r.b λ r=> .p (af n::r)
 |_=>r) ns
noncomputable def ZS(ns:ae (bI×dJ)):ae bI:=ns.filterMap λ e=>match e.2 with
 | .local=>af e.1
 | .free=>af e.1
 |_=>none
section
variable(k:(ct:Ct)->Tr ct)(ct:Ct)
def V3(es:ae aB):T (CL' ct):=l5 (motive:=λ aa=>T (CL' ct)) (.p λ aa=>qZ) (λ e aa r=>((k ct).e e).b λ a=>r.b λ r=> .p λ P=>iS (a P) (r P)) es
def trB{β:Type}(elt:aB)(gs:ae i6)(sc:qK)(f:(B:xH)->CE ct->((P:cC)->CL P (B.ct ct))->β):T β:=(trS sc.names).b λ src=>
 let B:xH:=⟨sc,ZS sc.names,src⟩
 match gs with
 |[]=>((k ct).e elt).b λ i=> .p (f B i λ aa=>cl1 (xn 0 p0) (zw 0 p0))
 |g::gs=>((k ct).e g.iter).b λ i=>(trG (B.ct ct) ZU g.target).b λ t=>((k (B.ct ct)).e elt).b λ x=>match g.ifs with
  |c::_=>((k (B.ct ct)).t c).b λ c=> .p (f B i λ P=>TJ (t P) (x P) (c P))
  |[]=>match gs with
   |h::_=>(trG (B.ct ct) ZU h.target).b λ t'=>((k (B.ct ct)).e h.iter).b λ i'=> .p (f B i λ P=>cl2 (t P) (x P) (t' P) (i' P))
   |[]=> .p (f B i λ P=>cl1 (t P) (x P))
noncomputable def clA:ae au:=[245,343,469,567,610,713,779,812,847,385,511]
def recv(e:aB):aB:=aX (a_ (kd e) 2) (at_ (yI e) 0) e
def Xq(P:cC)(ct:Ct):ae (c9->SL P ct->c9->SE P ct):=[aac,aab,NS,xBa,adA,HZ,Ry,Rz,aad,aae,S_,Wj,NU,Wh,Wg]
def call2(P:cC)(ct:Ct):ae (SE P ct->c9->SL P ct->c9->SE P ct):=[λ o aa l p=>DN o l p,λ o aa l p=>Wd o l p,λ o q l p=>Wc o q l p false,λ o q l p=>Wc o q l p true,adG,We,aaa]
def trF(f:aB)(as:ae aB)(p:c9)(n:Nat):T (CE ct):=aX (fu n 15) ((V3 k ct as).b λ l=> .p λ P=>((Xq P ct).getD n aac) f.pos (l P) p)
 (((k ct).e (recv f)).b λ o=>(V3 k ct as).b λ l=> .p λ P=>aX (fu n 30) (((call2 P ct).getD (n - 15) aaa) (o P) f.pos (l P) p) (aX (fu n 60) (adF (clA.getD (n - 30) 0) (o P) (l P) p) (DO (o P) (n - 60) f.pos (l P) p)))
def trD(f:aB)(p:c9)(g:aB):T (CE ct):=(V3 k ct (yI g).tail).b λ l=> .p λ P=>NV f.pos (at_ (yI g) 0).pos (l P) g.pos p
def trU(a i:aB)(p:c9):T (CE ct):=aX (a_ (kd i) 7) (((k ct).e a).b λ a=>((k ct).e (at_ (yI i) 0)).b λ l=>((k ct).e (at_ (yI i) 1)).b λ u=> .p λ P=>Wk (a P) (l P) (u P) i.pos p)
 (rd λ n=>((k ct).e a).b λ a=>((k ct).e i).b λ i=> .p λ P=>aX (a_ n 0) (FO (a P) (i P) p) (aX (a_ n 1) (aag (a P) (i P) p) (aaf (a P) (i P) p)))
def trE:aB->T (CE ct)
 | .Constant v k p=> .p (trC ct k p v)
 | .Name x p=>rd λ n=> .p λ P=>aX (fu n 20) (eZ n p) (Wi x (TT.gl.getD (n - 20) ("", .none)).2 p)
 | .BinOp a op b p=>((k ct).e a).b λ a=>((k ct).e b).b λ b=> .p λ P=>NR (a P) op (b P) p
 | .UnaryOp _ a p=>((k ct).e a).b λ a=> .p λ P=>adE (a P) p
 | .IfExp t a b p=>((k ct).t t).b λ t=>((k ct).e a).b λ a=>((k ct).e b).b λ b=> .p λ P=>xIf (t P) (a P) (b P) p
 | .Compare a op b p=>rd λ n=>((k ct).e a).b λ a=>((k ct).e (at_ b 0)).b λ b=> .p λ P=>aX (a_ n 0) (adC (a P) (op.headD .Eq) (b P) p) (Z_ (a P) (cks n) (b P) p)
 | .Attribute a _ p=>rd λ n=>((k ct).e a).b λ a=> .p λ P=>DM (a P) n p
 | .Subscript a i p=>trU k ct a i p
 | .Tuple es n p=>(V3 k ct es).b λ l=> .p λ P=>Wl (l P) n p
 | .List es p=>(V3 k ct es).b λ l=> .p λ P=>adD (l P) p
 | .Dict _ _ p=>rd λ n=> .p λ P=>Wf (a_ n 1) p
 | .ListComp a gs sc p=>trB k ct a gs sc λ B i c P=>NT B (i P) (c P) p
 | .Call f as _ p=>rd λ n=>aX (a_ n 59) (trD k ct f p (at_ as 0)) (trF k ct f as p n)
 |_=> .p λ aa=>zw 0 p0
def trT:aB->T (CT ct)
 | .Compare a op b p=>rd λ n=>((k ct).e a).b λ a=>((k ct).e (at_ b 0)).b λ b=> .p λ P=>aX (a_ n 0) (Rc (a P) (op.headD .Eq) (b P) p) (aX (a_ n 6) (ZN (a P) (b P) p) (S1 (a P) (cks n) (b P) p))
 | .BoolOp op vs p=>((k ct).t (at_ vs 0)).b λ a=>((k ct).t (at_ vs 1)).b λ b=> .p λ P=>match op with
  | .Or=>tOr (a P) (b P) p
  | .And=>adc (a P) (b P) p
 | .UnaryOp _ a p=>((k ct).t a).b λ a=> .p λ P=>adg (a P) p
 |e=>((k ct).e e).b λ a=> .p λ P=>ZR (a P)
def trA(v:aB)(p:c9)(e:aB):T (CX ct):=match kd e with
 |1=>rd λ n=>match v with
  | .ListComp a gs sc r=>aX (fu n 20) (((k ct).e v).b λ v=> .p λ P=>M0 n e.pos (v P) p) (trB k ct a gs sc λ B i c P=>M2 (n - 20) (vE e).2.1 e.pos B (i P) (c P) r p)
  |_=>((k ct).e v).b λ v=> .p λ P=>M0 n e.pos (v P) p
 |2=>rd λ n=>((k ct).e (at_ (yI e) 0)).b λ o=>((k ct).e v).b λ v=> .p λ P=>M1 (o P) n e.pos (v P) p
 |3=>((k ct).e (at_ (yI e) 0)).b λ o=>((k ct).e (at_ (yI e) 1)).b λ i=>((k ct).e v).b λ v=> .p λ P=>SU (o P) (i P) e.pos (v P) p
 |_=>rd λ m=>(ZU (yI e)).b λ ns=>aX (a_ m 1) ((V3 k ct (yI v)).b λ l=> .p λ P=>ac5 ns (vE e).2.2.1 e.pos (l P) (vE v).2.2.1 v.pos p) (((k ct).e v).b λ v=> .p λ P=>ac6 ns (vE e).2.2.1 e.pos (v P) p)
def trO(op:cH)(v:aB)(p:c9)(e:aB):T (CX ct):=match kd e with
 |1=>rd λ n=>((k ct).e v).b λ v=> .p λ P=>ac4 n e.pos op (v P) p
 |2=>rd λ n=>((k ct).e (at_ (yI e) 0)).b λ o=>((k ct).e v).b λ v=> .p λ P=>MZ (o P) n e.pos op (v P) p
 |_=>((k ct).e (at_ (yI e) 0)).b λ o=>((k ct).e (at_ (yI e) 1)).b λ i=>((k ct).e v).b λ v=> .p λ P=>SQ (o P) (i P) e.pos op (v P) p
noncomputable def GI:ae (ae aC):=[[false,false,false,false,false,false,true,false],[false,false,false,false,false,false,false,false],[false,false,false,false,false,false,false,true,false],[false,false,false,false,false,true,false,true,false]]
def trX(s:f0):T (CX ct):=match s with
 | .Pass p=> .p λ aa=>Zv p
 | .Return none p=> .p λ aa=>Zx p
 | .Return (af e) p=>rd λ n=>aX (a_ n 0) (((k ct).e e).b λ e=> .p λ P=>Ft (e P) p) (((k Gy).e (at_ (yI (at_ (yI e) 4)) 0)).b λ e=> .p λ P=>QT (e P))
 | .Expr e p=>rd λ n=>aX (a_ n 0) (((k ct).e e).b λ e=> .p λ P=>Dr (e P) p) (.p λ aa=>sNo s)
 | .If t a b p=>((k ct).t t).b λ t=>((k ct).s a).b λ a=>((k ct).s b).b λ b=> .p λ P=>sIf (t P) (a P) (b P) p
 | .While t a _ p=>((k ct).t t).b λ t=>((k ct).s a).b λ a=> .p λ P=>M3 (t P) (a P) p
 | .For t i a _ p=>rd λ n=>(trG ct ZU t).b λ t=>aX (a_ n 1) (((k ct).e (at_ (yI i) 0)).b λ f=>(V3 k ct (yI i).tail).b λ l=>((k ct).s a).b λ a=> .p λ P=>Zu (t P) (f P) (l P) i.pos (a P) p)
  (((k ct).e i).b λ i=>((k ct).s a).b λ a=> .p λ P=>Zt (t P) (i P) (aX (a_ n 0) (a P) (Nm (GI.getD (n - 2) []) (a P))) p)
 | .Assign ts v p=>trA k ct v p (at_ ts 0)
 | .AugAssign t op v p=>trO k ct op v p t
 |_=> .p λ aa=>sNo s
def trV(b:ae f0):T (CS ct):=l5 (motive:=λ aa=>T (CS ct)) (.p λ aa=>lK) (λ s aa r=>(trX k ct s).b λ x=>r.b λ r=> .p λ P=>iH (x P) (r P)) b
end
def tr(n:Nat):(ct:Ct)->Tr ct:=D4 (motive:=λ aa=>(ct:Ct)->Tr ct) (λ aa=>⟨λ aa=> .p λ aa=>zw 0 p0,λ aa=> .p λ aa=>ZR (zw 0 p0),λ aa=> .p λ aa=>lK⟩) (λ aa k ct=>⟨trE k ct,trT k ct,trV k ct⟩) n
def vS:f0->ae f0×aB×ae Arg×ae (bI×dJ)
 | .For t _ b _ _=>(b,t,[],[])
 | .While t b _ _=>(b,t,[],[])
 | .If _ b _ _=>(b,SB,[],[])
 | .Return e _=>([],e.getD SB,[],[])
 | .ClassDef _ _ _ b _ _ _ _ _ _ _=>(b,SB,[],[])
 | .FunctionDef _ a b _ _ _ sc _ _ _=>(b,SB,a.args,sc.names)
 |_=>([],SB,[],[])
def g_(s:f0):ae f0:=(vS s).1
def GU(s:f0):aB:=(vS s).2.1
def nW(b:ae f0)(i:Nat):f0:=b.getD i (.Pass p0)
def yT(i j:Nat):f0:=aX (a_ j 0) (nW gT.main.body i) (nW (g_ (nW gT.main.body i)) (j - 1))
def Bd(tb cq:aC)(s:f0):Ct:=⟨(vS s).2.2.2,(vS s).2.2.2.filterMap λ e=>match e.2 with
 | .local=>af e.1
 | .cell=>af e.1
 |_=>none,false,tb,cq⟩
def FP(s:f0):ae bI:=(vS s).2.2.1.map (·.arg)
def bo(ct:Ct)(b:ae f0)(s:Nat):CS ct:=((tr 20 ct).s b s).1
def vg(n:Nat)(ct:Ct)(b:ae f0)(s:Nat):CS ct:=((tr n ct).s b s).1
def mQ(ct:Ct)(e:aB)(s:Nat):CG ct:=(trG ct ZU e s).1
def tst(n:Nat)(ct:Ct)(e:aB)(s:Nat):CT ct:=((tr n ct).t e s).1
def kP:f0:=yT 8 0
noncomputable def o0:Nat:=0x4001c284080038008003031e1c2810c007060414104
def d6:Ct:=Bd false false kP
def sx:CS d6:=bo d6 (g_ kP) o0
def lU:CG d6:=mQ d6 (GU (nW (g_ kP) 1)) (o0 / 128 ^ 2)
def ii:CS d6:=λ P=>Nm (GI.getD 0 []) ((vg 19 d6 (g_ (nW (g_ kP) 1)) (o0 / 128 ^ 4)) P)
def d4:f0:=yT 10 0
noncomputable def f8:Nat:=0x2000618284303c0050818101343c1191e140000c00b8f0a0c084
def cn:Ct:=Bd false false d4
def k7:CS cn:=bo cn (g_ d4) f8
def ff:CG cn:=mQ cn (GU (nW (g_ d4) 1)) (f8 / 128 ^ 3)
def gO:CS cn:=λ P=>Nm (GI.getD 1 []) ((vg 19 cn (g_ (nW (g_ d4) 1)) (f8 / 128 ^ 7)) P)
def qg:f0:=yT 19 0
noncomputable def C1:Nat:=0x800000d800004000
def mj:Ct:=Bd false false qg
def pW:CS mj:=bo mj (g_ qg) C1
def qf:f0:=yT 20 0
noncomputable def C0:Nat:=0x1000200001000400100041000004000006c002
def mi:Ct:=Bd false false qf
def pV:CS mi:=bo mi (g_ qf) C0
def jS:f0:=yT 46 1
noncomputable def r_:Nat:=0x18020007801cac00d
def gV:Ct:=Bd false false jS
def jI:CS gV:=bo gV (g_ jS) r_
def lX:f0:=yT 46 2
noncomputable def u5:Nat:=0x18000202b478008006801a00704003400202b078008006801a00704003402b00340020204003001000d04040003600004
def g5:Ct:=Bd false false lX
def lQ:CS g5:=bo g5 (g_ lX) u5
def gH:f0:=yT 46 3
noncomputable def kM:Nat:=0xf01840001e0000f003800d5600680
def cm:Ct:=Bd false false gH
def ku:CS cm:=bo cm (g_ gH) kM
def iU:CT cm:=tst 19 cm (GU (nW (g_ gH) 0)) (kM / 128 ^ 0)
def iT:CS cm:=vg 19 cm (g_ (nW (g_ gH) 0)) (kM / 128 ^ 4)
def eY:f0:=yT 46 4
noncomputable def iD:Nat:=0x40102400100200810020080100200010000808100b800e5c00701
def cJ:Ct:=Bd false false eY
def iC:CS cJ:=bo cJ (g_ eY) iD
def fb:CT cJ:=tst 18 cJ (GU (nW (g_ (nW (g_ eY) 2)) 2)) (iD / 128 ^ 14)
def e_:CS cJ:=vg 18 cJ (g_ (nW (g_ (nW (g_ eY) 2)) 2)) (iD / 128 ^ 19)
def iF:f0:=yT 46 5
noncomputable def pE:Nat:=0x20072b020070100ad5801a00701
def fR:Ct:=Bd false false iF
def iB:CS fR:=bo fR (g_ iF) pE
def f4:f0:=yT 46 6
noncomputable def jL:Nat:=0x100400010260001004000100a03080003806100007801c03100
def cw:Ct:=Bd false false f4
def jJ:CS cw:=bo cw (g_ f4) jL
def f7:CT cw:=tst 19 cw (GU (nW (g_ f4) 5)) (jL / 128 ^ 15)
def f6:CS cw:=vg 19 cw (g_ (nW (g_ f4) 5)) (jL / 128 ^ 22)
def iW:f0:=yT 62 0
noncomputable def mJ:Nat:=0x100051424401ca1c202220030a12203800a108800614003000803d0c04284
def dQ:Ct:=Bd false false iW
def kx:CS dQ:=bo dQ (g_ iW) mJ
def na:CG dQ:=mQ dQ (GU (nW (g_ iW) 2)) (mJ / 128 ^ 3)
def kK:CS dQ:=vg 19 dQ (g_ (nW (g_ iW) 2)) (mJ / 128 ^ 7)
def gW:f0:=yT 63 0
noncomputable def l9:Nat:=0x103923c0c81e040090a0c1010130784
def gG:Ct:=Bd true true gW
def l8:CS gG:=bo gG (g_ gW) l9
def d0:f0:=yT 64 0
noncomputable def fP:Nat:=0x4001c3000e10207081838006140807e403020a00084
def bV:Ct:=Bd true false d0
def l7:CS bV:=bo bV (g_ d0) fP
def oY:CG bV:=mQ bV (GU (nW (g_ (nW (g_ d0) 1)) 1)) (fP / 128 ^ 13)
def oW:CS bV:=vg 18 bV (g_ (nW (g_ (nW (g_ d0) 1)) 1)) (fP / 128 ^ 15)
def oZ:CG bV:=mQ bV (GU (nW (g_ d0) 1)) (fP / 128 ^ 3)
def oX:CS bV:=vg 19 bV (g_ (nW (g_ d0) 1)) (fP / 128 ^ 5)
def mO:f0:=yT 74 0
noncomputable def sa:Nat:=0x808008081040804084000c18300100030008080
def hN:Ct:=Bd false false mO
def wa:CS hN:=bo hN (g_ mO) sa
def rj:CG hN:=mQ hN (GU (nW (g_ mO) 1)) (sa / 128 ^ 4)
def rh:CS hN:=vg 19 hN (g_ (nW (g_ mO) 1)) (sa / 128 ^ 6)
def i3:f0:=yT 81 0
noncomputable def kN:Nat:=0x2000c0800408085100020304041010a284060e0248f03207852200304061c10e0f1cc8f343c1800c102803e0100300ec2050084001020c101
def cN:Ct:=Bd false false i3
def h_:CS cN:=bo cN (g_ i3) kN
def jy:CG cN:=mQ cN (GU (nW (g_ (nW (g_ i3) 1)) 1)) (kN / 128 ^ 19)
def jx:CS cN:=λ P=>Nm (GI.getD 2 []) ((vg 18 cN (g_ (nW (g_ (nW (g_ i3) 1)) 1)) (kN / 128 ^ 27)) P)
def pq:CG cN:=mQ cN (GU (nW (g_ i3) 1)) (kN / 128 ^ 9)
def lT:CS cN:=λ P=>Nm (GI.getD 3 []) ((vg 19 cN (g_ (nW (g_ i3) 1)) (kN / 128 ^ 17)) P)
def md:f0:=yT 82 0
noncomputable def mK:Nat:=0x1060008002000800594101021020302000070c14182944030b14005870e2c20a1600488963c500121840305307820c104029a3c4851000081843c38602081ce1e040c21e1408232080cf1e1018003407820144781
def dL:Ct:=Bd true false md
def v_:CS dL:=bo dL (g_ md) mK
def Mi:CG dL:=mQ dL (GU (nW (g_ (nW (g_ md) 5)) 3)) (mK / 128 ^ 59)
def L6:CS dL:=vg 18 dL (g_ (nW (g_ (nW (g_ md) 5)) 3)) (mK / 128 ^ 61)
def CR:CG dL:=mQ dL (GU (nW (g_ md) 5)) (mK / 128 ^ 35)
def CJ:CS dL:=vg 19 dL (g_ (nW (g_ md) 5)) (mK / 128 ^ 37)
def BN:CE Gy:=((tr 19 Gy).e (at_ (yI (at_ (yI (GU (nW (g_ gW) 2))) 4)) 0) (l9 / 128 ^ 11)).1
def acE:CS dL:=vg 19 dL (jh 3 (g_ (nW (g_ md) 5))) (mK / 128 ^ 58)
def acD:CS dL:=vg 19 dL (jh 2 (g_ (nW (g_ md) 5))) (mK / 128 ^ 53)
def acC:CS dL:=vg 19 dL (jh 1 (g_ (nW (g_ md) 5))) (mK / 128 ^ 44)
def YC:CS dL:=vg 20 dL (jh 7 (g_ md)) (mK / 128 ^ 78)
def YB:CS dL:=vg 20 dL (jh 6 (g_ md)) (mK / 128 ^ 69)
def YA:CS dL:=vg 20 dL (jh 5 (g_ md)) (mK / 128 ^ 34)
def Sv:CS dL:=vg 20 dL (jh 4 (g_ md)) (mK / 128 ^ 27)
def Su:CS dL:=vg 20 dL (jh 3 (g_ md)) (mK / 128 ^ 15)
def Yz:CS dL:=vg 20 dL (jh 2 (g_ md)) (mK / 128 ^ 8)
def Yy:CS dL:=vg 20 dL (jh 1 (g_ md)) (mK / 128 ^ 4)
noncomputable def bk(ns:ae (bI×dJ))(src:ae (aq Nat)):xH:=⟨⟨.function,ns,false,false,[]⟩,ZS ns,src⟩
noncomputable def pQ:xH:=bk [(".0", .local),("size", .local),("value", .local),("least", .free)] [none,none,none,af 8]
noncomputable def pR:xH:=bk [(".0", .local),("size", .local),("value", .local)] [none,none,none]
noncomputable def F1:xH:=bk [(".0", .local),("name", .local),("grid", .free),("rows", .free)] [none,none,af 3,af 4]
noncomputable def N9:xH:=bk [(".0", .local),("turn", .local),("_law_scan", .globalImplicit),("frame", .free),("source", .free)] [none,none,af 2,af 1]
noncomputable def M6:(a b:TV)->aq {u:e9 // a=b}
 | .ex x, .ex y=>ob (Xc x y) λ h=>af ⟨(),ah TV.ex h.2⟩
 | .rg a b, .rg c d=>dE (nV a c) λ h=>dE (nV b d) λ k=>af ⟨(),h▸k▸rfl⟩
 | .ai, .ai=>af ⟨(),rfl⟩
 | .tb, .tb=>af ⟨(),rfl⟩
 | .tp a b, .tp c d=>ob (M6 a c) λ h=>ob (M6 b d) λ k=>af ⟨(),h.2▸k.2▸rfl⟩
 | .JI m, .JI n=>dE (jn m n) λ h=>af ⟨(),h▸rfl⟩
 | .nr a b c, .nr d e f=>dE (nV a d) λ h=>dE (nV b e) λ k=>dE (nV c f) λ l=>af ⟨(),h▸k▸l▸rfl⟩
 |_,_=>none
abbrev JH(a b:TV):Prop:=∀v,GV a v->GV b v
theorem JH.refl{a:TV}:JH a a:=λ aa g=>g
theorem JH.eq{a b:TV}(h:a=b):JH b a:=h▸JH.refl
theorem HX{t:TV}{p:Int×Int}{l u:Int}(e:mh t=af p)(h0:l<=p.1)(h1:p.2<=u):JH t (.rg l u):=λ v g=>mh.u e g (Q:=GV (.rg l u)) λ i a b=>⟨i,rfl,aO h0 a,aO b h1⟩
abbrev Jn(a b:TV):=aq {j:TV // JH a j/\JH b j}
def Ss(a b:TV):Jn a b:=ob (M6 a b) λ h=>af ⟨a,JH.refl,JH.eq h.2⟩
def jV(a b:TV):Jn a b:=
 oe (Ss a b)
 (oe (jN (mh a) λ p hp=>jN (mh b) λ q hq=>af ⟨.rg (min p.1 q.1) (max p.2 q.2),HX hp (qo _ _) (qn _ _),HX hq (px _ _) (pw _ _)⟩)
 (ob (tI a) λ x=>ob (tI b) λ y=>af ⟨.ai,x.2,y.2⟩))
abbrev uT(a b:ae TV):Prop:=∀v,dH a v->dH b v
theorem uT.cons{a b:TV}{r t:ae TV}(h:JH a b)(k:uT r t):uT (a::r) (b::t):=λ v=> .imp λ u=> .imp λ x=> .imp_right<| .imp (h u) (k x)
noncomputable def Ys:(a b:ae TV)->aq {j:ae TV // uT a j/\uT b j}
 |[],[]=>af ⟨[],λ aa g=>g,λ aa g=>g⟩
 |a::r,b::t=>ob (jV a b) λ x=>ob (Ys r t) λ y=>af ⟨x.1::y.1,uT.cons x.2.1 y.2.1,uT.cons x.2.2 y.2.2⟩
 |_,_=>none
abbrev RG(a b:ae (Int×Int)):Prop:=∀v,q9 a v->q9 b v
theorem RG.cons{a:Int×Int}{l u:Int}{r t:ae (Int×Int)}(h0:l<=a.1)(h1:a.2<=u)(k:RG r t):RG (a::r) ((l,u)::t):=λ v=> .imp λ aa=> .imp λ x=> .imp_right<| .imp (aO h0)<| .imp (aO · h1) (k x)
noncomputable def jQ:(a b:ae (Int×Int))->aq {j:ae (Int×Int) // RG a j/\RG b j}
 |[],[]=>af ⟨[],λ aa g=>g,λ aa g=>g⟩
 |a::r,b::t=>ob (jQ r t) λ y=>af ⟨(min a.1 b.1,max a.2 b.2)::y.1,RG.cons (qo _ _) (qn _ _) y.2.1,RG.cons (px _ _) (pw _ _) y.2.2⟩
 |_,_=>none
noncomputable def Mc:ae (Int×Int)->Int
 |[]=>0
 |q::r=>min q.1 (Mc r)
noncomputable def NB:ae (Int×Int)->Int
 |[]=>0
 |q::r=>max q.2 (NB r)
theorem q9.all:∀{q:ae (Int×Int)} {r:ae Int},q9 q r->∀x∈r,Mc q<=x/\x<=NB q
 |[],_=>λ h=>h.u0 (Q:=λ r=>∀x∈r,Mc []<=x/\x<=NB []) λ aa h=>bt h bK
 |p::q,_=>λ h=>h.uc (Q:=λ r=>∀x∈r,Mc (p::q)<=x/\x<=NB (p::q)) λ u r h0 h1 h=>aJ.mpr ⟨⟨aO (qo _ _) h0,aO h1 (qn _ _)⟩,λ x hx=>(q9.all h x hx).imp (aO (px _ _)) (aO · (pw _ _))⟩
structure lh(a b:TO):Prop where
 go:∀m o,GO m a o->GO m b o
 q:ml b=ml a
 ba:wG a=true->b= .ba
theorem GY{a:TO}(h:wG a=true):a= .ba:=by
 rcases a with _|_|_|_|_|_|_|_|_|_
 case ba=>rfl
 all_goals exact ay h
theorem lh.refl(a:TO):lh a a:=⟨λ aa aa g=>g,rfl,GY⟩
theorem lh.eq{a b:TO}(h:a=b):lh b a:=h▸lh.refl a
theorem Rt{f:ae AV->AO}{a b:ae TV}{o:AO}(k:uT a b):(∃us,o=f us/\dH a us)->∃us,o=f us/\dH b us:= .imp λ aa=> .imp_right (k _)
section
variable{a b:ae TV}
theorem lh.ns{ks xI:ae Nat}(h:ks=xI)(k:uT a b):lh (.ns xI a) (.ns ks b):=h▸⟨λ aa aa=>Rt (f:=AO.ns ks) k,rfl,λ h=>ay h⟩
theorem lh.iM{ks xI:ae Int}(h:ks=xI)(k:uT a b):lh (.iM xI a) (.iM ks b):=h▸⟨λ aa aa=>Rt (f:=AO.iM ks) k,rfl,λ h=>ay h⟩
theorem lh.bG{ks xI:ae (ae Int)}(h:ks=xI)(k:uT a b):lh (.bG xI a) (.bG ks b):=h▸⟨λ aa aa=>Rt (f:=AO.bG ks) k,rfl,λ h=>ay h⟩
theorem lh.lst(k:uT a b):lh (.lst a) (.lst b):=⟨λ aa aa=>Rt (f:=AO.lst) k,rfl,λ h=>ay h⟩
theorem lh.il{a b:ae (Int×Int)}(k:RG a b):lh (.il a) (.il b):=⟨λ aa aa=> .imp λ aa=> .imp_right (k _),rfl,λ h=>ay h⟩
theorem lh.enc{q q' L L':Nat}(h:q=q')(l:L<=L'):lh (.enc q' L) (.enc q L'):=h▸⟨λ aa aa=> .imp λ aa=> .imp λ aa=> .imp λ aa=> .imp λ aa=> .imp_right<| .imp_right<| .imp_right (aG · l),rfl,λ h=>ay h⟩
theorem lh.Af{o:TO}{n n':Nat}{l u l' u':Int}(h:lh o (.Af n l u))(e:n'=n)(h0:l'<=l)(h1:u<=u'):lh o (.Af n' l' u'):=
 ⟨λ m x g=>(h.go m x g).imp λ aa=> .imp_right<| .imp (·.trans e.symm) λ a y hy=>(a y hy).imp (aO h0) (aO · h1),h.q,λ q=>TO.noConfusion (h.ba q)⟩
end
noncomputable def Vb(o:TO):aq {c:Nat×Int×Int // lh o (.Af c.1 c.2.1 c.2.2)}:=match o with
 | .Af n l u=>af ⟨(n,l,u),lh.refl _⟩
 | .il q=>af ⟨(q.length,Mc q,NB q),λ aa aa=> .imp λ aa=> .imp_right λ h=>⟨h.len,h.all⟩,rfl,λ h=>ay h⟩
 |_=>none
def jO:(a b:TO)->aq {j:TO // lh a j/\lh b j}
 | .ns ks a, .ns xI b=>dE (nV ks xI) λ h=>ob (Ys a b) λ x=>af ⟨.ns ks x.1,lh.ns rfl x.2.1,lh.ns h x.2.2⟩
 | .inst C j, .inst C' j'=>dE (jn C C') λ h=>dE (jn j j') λ k=>af ⟨.inst C j,lh.refl _,lh.eq (h▸k▸rfl)⟩
 | .lst a, .lst b=>ob (Ys a b) λ x=>af ⟨.lst x.1,lh.lst x.2.1,lh.lst x.2.2⟩
 | .il p, .il q=>ob (jQ p q) λ x=>af ⟨.il x.1,lh.il x.2.1,lh.il x.2.2⟩
 | .iM ks a, .iM xI b=>dE (nV ks xI) λ h=>ob (Ys a b) λ x=>af ⟨.iM ks x.1,lh.iM rfl x.2.1,lh.iM h x.2.2⟩
 | .bG ks a, .bG xI b=>dE (nV ks xI) λ h=>ob (Ys a b) λ x=>af ⟨.bG ks x.1,lh.bG rfl x.2.1,lh.bG h x.2.2⟩
 | .enc q L, .enc q' L'=>dE (jn q q') λ h=>af ⟨.enc q (max L L'),lh.enc rfl (Nat.le_max_left _ _),lh.enc h (Nat.le_max_right _ _)⟩
 | .ba, .ba=>af ⟨.ba,lh.refl _,lh.refl _⟩
 | .ix a, .ix b=>dE (nV a b) λ h=>af ⟨.ix a,lh.refl _,lh.eq (h▸rfl)⟩
 |a,b=>ob (Vb a) λ x=>ob (Vb b) λ y=>dE (jn x.1.1 y.1.1) λ h=>af ⟨.Af x.1.1 (min x.1.2.1 y.1.2.1) (max x.1.2.2 y.1.2.2),x.2.Af rfl (qo _ _) (qn _ _),y.2.Af h (px _ _) (pw _ _)⟩
noncomputable def qu:ae TO->ae TO->Prop
 |[],m=>m=[]
 |a::r,m=>∃b t,m=b::t/\lh a b/\qu r t
theorem qu.uc{a:TO}{r m:ae TO}{Q:ae TO->Prop}(h:qu (a::r) m)(k:∀b t,lh a b->qu r t->Q (b::t)):Q m:=aD h λ b h=>h.elim λ t h=>h.1▸k b t h.2.1 h.2.2
theorem qu.u0{m:ae TO}{Q:ae TO->Prop}(h:qu [] m)(k:Q []):Q m:=(show m=[] from h)▸k
theorem qu.cons{a b:TO}{r t:ae TO}(h:lh a b)(k:qu r t):qu (a::r) (b::t):=⟨b,t,rfl,h,k⟩
theorem qu.refl:∀m:ae TO,qu m m
 |[]=>rfl
 |a::r=> .cons (lh.refl a) (qu.refl r)
noncomputable def jM:(a b:ae TO)->aq {j:ae TO // qu a j/\qu b j}
 |[],[]=>af ⟨[],rfl,rfl⟩
 |a::r,b::t=>ob (jO a b) λ x=>ob (jM r t) λ y=>af ⟨x.1::y.1, .cons x.2.1 y.2.1, .cons x.2.2 y.2.2⟩
 |_,_=>none
theorem qu.len:∀{a b:ae TO},qu a b->a.length=b.length
 |[],_=>λ h=>h.u0 (Q:=λ b=>0=b.length) rfl
 |_::r,_=>λ h=>h.uc (Q:=λ b=>r.length+1=b.length) λ aa aa aa h=>ah (·+1) h.len
theorem qu.at:∀{a b:ae TO} {i:Nat} {o:TO},qu a b->gU b i=af o->∃x,gU a i=af x/\lh x o
 |[],_,i,o=>λ h=>h.u0 (Q:=λ b=>gU b i=af o->∃x,gU [] i=af x/\lh x o) λ e=>cu e
 |x::r,_,i,o=>λ h=>h.uc (Q:=λ b=>gU b i=af o->∃y,gU (x::r) i=af y/\lh y o) λ y t l h=>match i with
  |0=>λ e=>⟨x,rfl,am e▸l⟩
  |i+1=>qu.at (i:=i) h
theorem qu.get:∀{a b:ae TO} {i:Nat} {o:TO},qu a b->gU a i=af o->∃x,gU b i=af x/\lh o x
 |[],_,i,o=>λ aa e=>cu e
 |x::r,_,i,o=>λ h=>h.uc (Q:=λ b=>gU (x::r) i=af o->∃y,gU b i=af y/\lh o y) λ y t l h=>match i with
  |0=>λ e=>⟨y,rfl,am e▸l⟩
  |i+1=>qu.get (i:=i) h
theorem GM.le{t j:ae TO}{m:ae AO}(g:GM t m)(h:qu t j):GM j m:=
 ⟨h.len.symm.trans g.len,λ i o e=>(h.at e).elim λ x w=>(g.get i x w.1).imp λ aa=> .imp_right (w.2.go _ _),
  λ i o q e hq=>(h.at e).elim λ x w=>(h.get (g.enc i x q w.1 (w.2.q.symm.trans hq))).elim λ y z=>z.1.trans (ah af (z.2.ba rfl))⟩
noncomputable abbrev Out:=TV×ae TO
structure Ib(a b:Out):Prop where
 v:JH a.1 b.1
 m:qu a.2 b.2
theorem Ib.refl(a:Out):Ib a a:=⟨λ aa g=>g,qu.refl _⟩
def jR(w:aC)(a b:TV):Jn a b:=match w with
 |true=>jV a b
 |false=>Ss a b
abbrev JU(a b:Out):=aq {j:Out // Ib a j/\Ib b j}
def jU(w:aC)(a b:Out):JU a b:=ob (jR w a.1 b.1) λ x=>ob (jM a.2 b.2) λ y=>af ⟨(x.1,y.1),⟨x.2.1,y.2.1⟩,⟨x.2.2,y.2.2⟩⟩
noncomputable def jC{o x:Out}(q:JU o x)(r l:ae Out):ae Out:=match q with
 |some j=>j.1::r
 |none=>x::l
noncomputable def jIn(w:aC)(o:Out):ae Out->ae Out
 |[]=>[o]
 |x::r=>jC (jU w o x) r (jIn w o r)
abbrev F4(l l':ae Out):Prop:=∀x∈l,∃y,y∈l'/\Ib x y
theorem F4.of{l l':ae Out}(h:∀x∈l,x∈l'):F4 l l':=λ x hx=>⟨x,h x hx,Ib.refl x⟩
theorem F4.up{l l':ae Out}{a:Out}(h:F4 l l'):F4 l (a::l'):=λ x hx=>(h x hx).imp λ aa=> .imp_left (aP _)
theorem Yr{o x:Out}{r l:ae Out}(ih:F4 (o::r) l):∀q:JU o x,F4 (o::x::r) (jC q r l)
 |some j=>aJ.mpr ⟨⟨j.1,aR,j.2.1⟩,aJ.mpr ⟨⟨j.1,aR,j.2.2⟩,F4.of λ aa h=>aP _ h⟩⟩
 |none=>have ih:=aJ.mp (F4.up (a:=x) ih); aJ.mpr ⟨ih.1,aJ.mpr ⟨⟨x,aR,Ib.refl x⟩,ih.2⟩⟩
theorem LS(w:aC)(o:Out):∀l:ae Out,F4 (o::l) (jIn w o l)
 |[]=>F4.of λ aa h=>h
 |x::r=>Yr (LS w o r) (jU w o x)
theorem lh.trans{a b c:TO}(h:lh a b)(k:lh b c):lh a c:=⟨λ m o g=>k.go m o (h.go m o g),k.q.trans h.q,λ q=>k.ba (h.ba q▸rfl)⟩
theorem qu.trans:∀{a b c:ae TO},qu a b->qu b c->qu a c
 |[],_,c=>λ h=>h.u0 (Q:=λ b=>qu b c->qu [] c) id
 |x::a,_,c=>λ h=>h.uc (Q:=λ b=>qu b c->qu (x::a) c) λ y b l h k=>k.uc (Q:=qu (x::a)) λ aa aa l' k=> .cons (l.trans l') (h.trans k)
theorem Ib.trans{a b c:Out}(h:Ib a b)(k:Ib b c):Ib a c:=⟨λ v g=>k.v v (h.v v g),h.m.trans k.m⟩
noncomputable def LR(w:aC):ae Out->ae Out
 |[]=>[]
 |o::r=>jIn w o (LR w r)
theorem Ai(w:aC):∀l:ae Out,F4 l (LR w l)
 |[]=>λ aa h=>bt h bK
 |o::r=>have c:=aJ.mp (LS w o (LR w r)); aJ.mpr ⟨c.1,λ x hx=>(Ai w r x hx).elim λ y z=>(c.2 y z.1).imp λ aa=> .imp_right z.2.trans⟩
noncomputable def ZQ(o:AF×AS):Out:=match o.1 with
 | .d8=>(.ex .none,o.2.mem)
 | .ret t=>(t,o.2.mem)
noncomputable def zr:ae bI->ae TV->ae TV
 |_::r,v::vs=>v::zr r vs
 |_::r,[]=> .ex .undef::zr r []
 |[],_=>[]
theorem xm:∀(aS:ae bI) {ts:ae TV} {vs:ae AV},dH ts vs->dH (zr aS ts) (fill aS vs)
 |[],_,_=>λ aa=>rfl
 |x::r,[],_=>λ h=>h.u0 (Q:=λ vs=>dH (zr (x::r) []) (fill (x::r) vs)) ⟨.undef,_,rfl,rfl,xm r rfl⟩
 |x::r,t::ts,_=>λ h=>h.uc (Q:=λ vs=>dH (zr (x::r) (t::ts)) (fill (x::r) vs)) λ u us g gs=>⟨u,_,rfl,g,xm r gs⟩
section
variable{α:Type}
noncomputable def fN(n:Nat)(k:Nat->α):α:=D4 (motive:=λ aa=>α) (k 0) (λ m aa=>k (rE m)) n
theorem ut(n:Nat)(k:Nat->α):fN n k=k n:=by cases n<;>rfl
def fI(i:Int)(k:Int->α):α:=Int.rec (motive:=λ aa=>α) (λ n=>fN n λ n=>k (.ofNat n)) (λ n=>fN n λ n=>k (.negSucc n)) i
theorem yR(i:Int)(k:Int->α):fI i k=k i:=by
 rcases i with n|n
 ·exact ut n λ n=>k (.ofNat n)
 ·exact ut n λ n=>k (.negSucc n)
noncomputable def fL{β:Type}(f:β->(β->α)->α)(l:ae β)(k:ae β->α):α:=l5 (motive:=λ aa=>(ae β->α)->α) (λ k=>k []) (λ t aa h k=>f t λ t=>h λ r=>k (t::r)) l k
theorem Cc{β:Type}{f:β->(β->α)->α}(h:∀t k,f t k=k t):∀(l:ae β) (k:ae β->α),fL f l k=k l
 |[],_=>rfl
 |t::r,k=>(h t λ t=>fL f r λ r=>k (t::r)).trans (Cc h r λ r=>k (t::r))
def fV(v:AV)(k:AV->α):α:=match v with
 | .own p=>fN p λ p=>k (.own p)
 |v=>k v
theorem XQ(v:AV)(k:AV->α):fV v k=k v:=by
 rcases v with _|_|_|_|_|p|_|_|_|_|_|_|_|_|_|_|_|_
 case own=>exact ut p λ p=>k (.own p)
 all_goals rfl
noncomputable def fT(t:TV)(k:TV->α):α:=TV.rec (motive:=λ aa=>(TV->α)->α) (λ v k=>fV v λ v=>k (.ex v)) (λ l u k=>fI l λ l=>fI u λ u=>k (.rg l u)) (λ k=>k .ai) (λ k=>k .tb) (λ n k=>k (.JI n))
 (λ aa aa a b k=>a λ a=>b λ b=>k (.tp a b)) (λ q k=>k (.rw q)) (λ k=>k .ln) (λ h t aa aa k=>k (.lc h t)) (λ v l u k=>k (.nr v l u)) (λ R k=>k (.gr R)) t k
theorem K3:∀(t:TV) (k:TV->α),fT t k=k t
 | .ex v,k=>XQ v λ v=>k (.ex v)
 | .rg l u,k=>(yR l λ l=>fI u λ u=>k (.rg l u)).trans (yR u λ u=>k (.rg l u))
 | .tp a b,k=>(K3 a λ a=>fT b λ b=>k (.tp a b)).trans (K3 b λ b=>k (.tp a b))
 | .ai,_=>rfl
 | .tb,_=>rfl
 | .JI _,_=>rfl
 | .rw _,_=>rfl
 | .ln,_=>rfl
 | .lc _ _,_=>rfl
 | .nr _ _ _,_=>rfl
 | .gr _,_=>rfl
def fq(q:Int×Int)(k:Int×Int->α):α:=fI q.1 λ a=>fI q.2 λ b=>k (a,b)
theorem XU(q:Int×Int)(k:Int×Int->α):fq q k=k q:=(yR q.1 λ a=>fI q.2 λ b=>k (a,b)).trans (yR q.2 λ b=>k (q.1,b))
noncomputable def T_(l:ae TV)(k:ae TV->α):α:=fL fT l k
def fO(o:TO)(k:TO->α):α:=TO.rec (motive:=λ aa=>(TO->α)->α) (λ ks vs k=>fL fN ks λ ks=>T_ vs λ vs=>k (.ns ks vs)) (λ C j k=>fN j λ j=>k (.inst C j)) (λ vs k=>T_ vs λ vs=>k (.lst vs)) (λ q k=>fL fq q λ q=>k (.il q))
 (λ n l u k=>fN n λ n=>fI l λ l=>fI u λ u=>k (.Af n l u)) (λ ks vs k=>T_ vs λ vs=>k (.iM ks vs)) (λ ks vs k=>T_ vs λ vs=>k (.bG ks vs)) (λ q L k=>fN q λ q=>fN L λ L=>k (.enc q L)) (λ k=>k .ba) (λ r k=>k (.ix r)) o k
theorem wo:∀(l:ae TV) (k:ae TV->α),T_ l k=k l:=Cc K3
theorem XO:∀(o:TO) (k:TO->α),fO o k=k o
 | .ns ks vs,k=>(Cc ut ks λ ks=>T_ vs λ vs=>k (.ns ks vs)).trans (wo vs λ vs=>k (.ns ks vs))
 | .inst C j,k=>ut j λ j=>k (.inst C j)
 | .lst vs,k=>wo vs λ vs=>k (.lst vs)
 | .il q,k=>Cc XU q λ q=>k (.il q)
 | .Af n l u,k=>(ut n λ n=>fI l λ l=>fI u λ u=>k (.Af n l u)).trans ((yR l λ l=>fI u λ u=>k (.Af n l u)).trans (yR u λ u=>k (.Af n l u)))
 | .iM ks vs,k=>wo vs λ vs=>k (.iM ks vs)
 | .bG ks vs,k=>wo vs λ vs=>k (.bG ks vs)
 | .enc q L,k=>(ut q λ q=>fN L λ L=>k (.enc q L)).trans (ut L λ L=>k (.enc q L))
 | .ba,k=>rfl
 | .ix r,k=>rfl
noncomputable def fM(l:ae TO)(k:ae TO->α):α:=fL fO l k
theorem XN:∀(l:ae TO) (k:ae TO->α),fM l k=k l:=Cc XO
end
def jNj(nj w:aC)(l:ae Out):ae Out:=aX nj l (LR w l)
theorem UN(w:aC)(l:ae Out):∀nj:aC,F4 l (jNj nj w l)
 |true=>F4.of λ aa h=>h
 |false=>Ai w l
def Vy{P:cC}{ct:Ct}(nj w:aC)(b:SS P ct)(ts:ae TV)(tm:ae TO):aq (ae Out):=T_ ts λ ts=>fM tm λ tm=>ob (b.ab ⟨zr ct.aS ts,tm⟩) λ outs=>af (jNj nj w (outs.map ZQ))
inductive Eg{P:cC}{ct:Ct}(b:SS P ct)(σ:St)(p:Out->Prop):Prop
 |mk (v:AV) (m:ae AO) (o:Out) (ho:p o) (gv:GV o.1 v) (gm:GM o.2 m) (run:b.run σ (iE λ v' m'=>v'=v/\m'=m))
theorem Eg.imp{P:cC}{ct:Ct}{b:SS P ct}{σ:St}{p q:Out->Prop}(k:∀o,p o->∃y,q y/\Ib o y)(h:Eg b σ p):Eg b σ q:=by
 rcases h with⟨v,m,o,ho,gv,gm,run⟩
 exact(k o ho).elim λ y z=>⟨v,m,y,z.1,z.2.v v gv,gm.le z.2.m,run⟩
theorem Vu{P:cC}{ct:Ct}{b:SS P ct}{σ0 σ:St}{s:AS}{l:ae (AF×AS)}:∀{a:AF} {f:Fl},(a,s)∈l->GF a f->GS s σ->(∀K:Fl->St->Prop,K f σ->b.run σ0 K)->Eg b σ0 λ o=>o∈l.map ZQ
 | .d8,f=>λ h gf gs k=>⟨.none,σ.mem,(.ex .none,s.mem),dN.mpr ⟨_,h,rfl⟩,rfl,gs.mem,k _ ((show f= .d8 from gf)▸⟨rfl,rfl⟩)⟩
 | .ret t,f=>λ h gf gs k=>aD gf λ v gf=>⟨v,σ.mem,(t,s.mem),dN.mpr ⟨_,h,rfl⟩,gf.2,gs.mem,k _ (gf.1▸⟨rfl,rfl⟩)⟩
theorem HB{P:cC}{ct:Ct}{nj w:aC}{b:SS P ct}{ts:ae TV}{tm:ae TO}{outs:ae Out}{vs:ae AV}{m:ae AO}(fo:l6 P)(h:Vy nj w b ts tm=af outs)(gv:dH ts vs)(gm:GM tm m):Eg b ⟨fill ct.aS vs,m⟩ λ o=>o∈outs:=
 ob.u (((wo ts _).trans (XN tm _)).symm.trans h) λ l e h=>(b.cO fo _ _ e ⟨fill ct.aS vs,m⟩ ⟨xm _ gv,gm⟩).u λ f σ a s hm gf gs k=>(Vu hm gf gs k).imp (am h▸UN w _ nj)
noncomputable def Xx(q:Int×Int):ae (Int×Int):=[(q.1,-1),(0,0),(1,q.2)]
theorem O5{q:Int×Int}{x:Int}(h0:q.1<=x)(h1:x<=q.2):∃p,p∈Xx q/\p.1<=x/\x<=p.2:=
 (Int.lt_trichotomy x 0).elim (λ h=>⟨(q.1,-1),aR,h0,ja h⟩) λ h=>h.elim (λ h=>⟨(0,0),aP _ aR,dX h.symm,dX h⟩) λ h=>⟨(1,q.2),aP _ (aP _ aR),H0 h,h1⟩
noncomputable def O6:ae (Int×Int)->ae (ae (Int×Int))
 |[]=>[[]]
 |q::r=>(Xx q).flatMap λ p=>(O6 r).map λ t=>p::t
theorem Gz:∀{q:ae (Int×Int)} {r:ae Int},q9 q r->∃p,p∈O6 q/\q9 p r
 |[],_=>λ h=>⟨[],be.mpr rfl,h⟩
 |q::qs,_=>λ h=>h.uc (Q:=λ r=>∃p,p∈O6 (q::qs)/\q9 p r) λ x r h0 h1 h=>(O5 h0 h1).elim λ p a=>(Gz h).elim λ t c=>⟨p::t,u9.mpr ⟨p,a.1,dN.mpr ⟨t,c.1,rfl⟩⟩,x,r,rfl,a.2.1,a.2.2,c.2⟩
noncomputable def Tq{α:Type}(f:α->aq (ae Out)):ae α->aq (ae Out)
 |[]=>af []
 |t::r=>ob (f t) λ x=>ob (Tq f r) λ y=>af (x++y)
theorem Gf{α:Type}{f:α->aq (ae Out)}:∀{l:ae α} {outs:ae Out},Tq f l=af outs->∀t∈l,∃x,f t=af x/\∀o∈x,o∈outs
 |[],_=>λ aa aa h=>bt h bK
 |a::r,outs=>λ h=>ob.u h λ x e h=>ob.u h λ y e2 h=>am h▸aJ.mpr ⟨⟨x,e,λ o=>dA y⟩,λ t ht=>(Gf e2 t ht).imp λ z=> .imp_right λ b o ho=>cD x (b o ho)⟩
noncomputable def K_(ts:ae TV):aq {c:TV×TV×TV×TV // ts=[c.1,c.2.1,c.2.2.1,c.2.2.2]}:=match ts with
 |[a,b,c,d]=>af ⟨(a,b,c,d),rfl⟩
 |_=>none
noncomputable def ac3(t:TV):aq {c:(Int×Int)×ae (Int×Int) // t= .rw (c.1::c.2)}:=match t with
 | .rw (q::r)=>af ⟨(q,r),rfl⟩
 |_=>none
def ZH(f:ae TV->aq (ae Out))(ts:ae TV):aq (ae Out):=ob (K_ ts) λ c=>ob (ac3 c.1.2.2.2) λ q=>ob (Tq (λ p=>f [c.1.1,c.1.2.1,c.1.2.2.1, .rw (q.1.1::p)]) (O6 q.1.2)) λ l=>af (LR false l)
theorem Q6{f:ae TV->aq (ae Out)}{ts:ae TV}{outs:ae Out}{vs:ae AV}{R:(Out->Prop)->Prop}(hR:∀p q:Out->Prop,(∀o,p o->∃y,q y/\Ib o y)->R p->R q)(h:ZH f ts=af outs)(gv:dH ts vs)
  (k:∀u7 l,f u7=af l->dH u7 vs->R λ o=>o∈l):R λ o=>o∈outs:=
 ob.u h λ c aa h=>ob.u h λ q aa h=>ob.u h λ l e h=>(c.2▸gv:dH [c.1.1,c.1.2.1,c.1.2.2.1,c.1.2.2.2] vs).uc (Q:=λ vs=>(∀u7 l,f u7=af l->dH u7 vs->R λ o=>o∈l)->R λ o=>o∈outs) (λ v1 r g1 gv=>gv.uc (Q:=λ r=>(∀u7 l,f u7=af l->dH u7 (v1::r)->R λ o=>o∈l)->R λ o=>o∈outs) λ v2 r g2 gv=>
  gv.u2 (Q:=λ r=>(∀u7 l,f u7=af l->dH u7 (v1::v2::r)->R λ o=>o∈l)->R λ o=>o∈outs) λ v3 v4 g3 g4 k=>aD (q.2▸g4:GV (.rw (q.1.1::q.1.2)) v4) λ row g4=>aD g4.2 λ i z=>z.elim λ is z=>(Gz z.2.2.2).elim λ p hp=>(Gf e p hp.1).elim λ x w=>
   hR _ _ (λ o ho=>am h▸Ai false l o (w.2 o ho)) (k _ x w.1 (.cons g1 (.cons g2 (.cons g3 (.cons ⟨row,g4.1,i,is,z.1,z.2.1,z.2.2.1,hp.2⟩ rfl)))))) k
structure lg where
 f:au
 ct:Ct
 xs:ae bI
 dm:Nat
 wide:aC
 WE:aC
 fz:aC
 nj:aC
 b:(P:cC)->SS P ct
noncomputable def fe(f:au)(ct:Ct)(xs:ae bI)(b:(P:cC)->SS P ct)(dm:Nat:=0)(wide:aC:=false)(WE:aC:=false)(fz:aC:=false)(nj:aC:=false):lg:=⟨f,ct,xs,dm,wide,WE,fz,nj,b⟩
def fi(f i j s:Nat)(dm:Nat:=0)(wide:aC:=false)(WE:aC:=false)(fz:aC:=false)(nj:aC:=false):lg:=⟨f,Bd false false (yT i j),FP (yT i j),dm,wide,WE,fz,nj,bo (Bd false false (yT i j)) (g_ (yT i j)) s⟩
def FT:ae lg:=[fi 28 4 0 0x1000c1012200a03040010506000050400a01 (fz:=true) (nj:=true),fi 35 5 0 0x20008102541800018581 (fz:=true) (nj:=true),fi 42 6 0 0x8001c6088800a100ca000c2840006e80000c002,fi 49 7 0 0x100065018004040161e0c002,fe 56 d6 (FP kP) sx,fi 61 9 0 0x20008102040201a30081002c00102040803e3461500840010001100 (fz:=true) (nj:=true),fe 68 cn (FP d4) k7,fi 242 18 1 0x40010208000 (dm:=1),fi 242 18 1 0x40010208000 (dm:=2),fi 270 26 0 0x20a00101017c0020a08080be002830010105040405f000c005,fi 284 28 0 0x184040405f000c180,fi 298 30 0 0x4001000c0000008000,fi 312 31 1 0x17400300101000604002,fi 319 31 2 0x100001c002000031d38780800a001010000005,fi 326 31 3 0x142030478781001808004000030014200,fi 333 31 4 0x28940283013e3c008120806400882880e180a11e28480101c301be00386037c0230a002840a1400110080060e180df0014002001800200080000a0038602101000e080070010280080c004,fi 396 35 0 0x120306080800000003 (wide:=true),fi 403 36 0 0x4800000,fi 410 37 0 0x40010000000,fi 417 38 0 0x1000406100004a3c0010800104,fi 424 39 0 0x102a0040401f1e00101017c0020a08080be00284000c105040405f0010005040405f0010005,fi 445 41 1 0x5d0098e1e0030300081400b080050300241001004002,fi 452 41 2 0x2538f38780800a001010000005,fi 459 41 3 0x1c281be0000b0e003880810008001c009523c38502a078010000801806f800e140df008c4040000207060128f101c385037c0080000207060128f101c281be003070000507001000b00281aa1e182000a002820008004 (WE:=true),fi 586 50 1 0xbd0802404011,fi 593 50 2 0x6e8000440805e84012,fi 600 50 3 0x8080240e5000044180,fi 607 50 4 0x4b180,fi 621 51 0 0x1000811804000c10302542000600002,fi 626 52 0 0x188104540810004680,fi 633 53 0 0x180001000b00844010801032400c88004010331e1000b0000202007da8f007da1f0644000420018008d938000880004200004002c021020103750000220001080,fi 640 54 0 0x4040391ee1100,fi 647 56 0 0x1ac0013c0006700000e6 (fz:=true) (nj:=true),fi 654 57 0 0x6c01ac003040009e000338304000e6 (fz:=true) (nj:=true),fi 661 58 0 0x80048012002813c0028422003862a0c406280848628144000c54287001409e0000d800c04f000a14004060809e00000e6 (fz:=true) (nj:=true),fe 675 dQ (FP iW) kx,fi 696 66 0 0x204000,fi 710 67 1 0x800b0300541002804013,fi 731 68 1 0x300121401b0800d0300641003004017,fi 736 68 2 0x4a01006c480,fi 741 68 3 0x4a81006c480,fi 748 68 4 0xd2004803500780,fi 755 68 5 0xd4004803300780,fi 762 68 6 0x1a8115006600f0600069045001a803c181006c002,fi 769 68 7 0x120e00f00241401e00080d00c100,fi 776 68 8 0x11501b011401ac001006c002,fi 795 70 1 0x2021028300748800407684060009b00141000074089022401c,fi 802 70 2 0x1001c0800002060401d0000004,fi 809 70 3 0x416081810074000,fi 830 72 1 0x70010300441400b080108300801003e0401e,fi 837 72 2 0x3c00000,fe 858 hN (FP mO) wa,fi 865 75 0 0x8000000000000002000400000040000400000,fi 872 76 0 0x40210f8290000843e1a3030d1820108781 (fz:=true) (nj:=true),fi 877 77 0 0xc1000e20203001c404057c002843c085001c404060210f001c4040614288001828700100ed0c14001360028400040c44a0c101 (nj:=true),fi 882 78 0 0x102843c0820a001051715300010878201087c54c000421e000421e080421f153000108780026c002 (fz:=true) (nj:=true),fi 887 79 0 0x80028106080860a14304220001b0050300da00285001020504041033c000830a080800278000ce0c1000278000 (fz:=true) (nj:=true),fi 892 80 0 0xc00083040c20004042870e101062200284001c3800c1000306002810118784 (fz:=true) (nj:=true)]
def FJ:ae lg:=[fe 256 mj (FP qg) pW,fe 263 mi (FP qf) pV,fe 529 gV (FP jS) jI,fe 536 g5 (FP lX) lQ,fe 543 cm (FP gH) ku,fe 550 cJ (FP eY) iC,fe 557 fR (FP iF) iB,fe 564 cw (FP f4) jJ]
def FL:ae lg:=[fe 682 gG (FP gW) l8,fe 689 bV (FP d0) l7]
def FA:ae lg:=FT++FJ++FL
noncomputable def P0(prog:aK)(w:bw):cC where
 prog:=prog
 w:=w
 K:=[]
 gl:=[]
 at_:=λ aa aa=>false
 Φ:=λ aa=>False
 d:=1
 j:=true
 mono:=λ aa aa aa h=>h
 base:=λ aa h=>h.elim
 glob:=λ aa aa aa aa h=>h.elim
 attr:=λ aa aa h=>nomatch h
 Jl:=λ aa h=>h.elim
 blt:=[]
 yD:=λ aa h=>by cases h
 init:=λ aa=>none
 EW:=λ aa aa h=>nomatch h
 tP:=λ aa aa=>none
 Fb:=λ aa aa aa h=>nomatch h
 cB:=λ aa aa aa=>none
noncomputable def TX(K:eI)(fd:dR):aC:=wZ fd.defaults λ T=>o4 (K.lookup T) λ o=>Na o (yY [0])
theorem O_{K:eI}{fd:dR}(h:TX K fd=true):∃T o t n,fd.defaults= .ref T/\K.lookup T=af o/\o.data= .seq #[.int 0 t] n:=
 (lA h).elim λ T h=>f9 h.2 λ o e h'=>(AE h').elim λ vs z=>z.elim λ n z=>aD (vk z.2) λ t w=>w.elim λ r w=>⟨T,o,t,n,h.1,e,z.1.trans (ah (t5 · n) (uK.mp (w.1.trans (ah (eC 0 t::·) w.2))))⟩
def B7(K:eI)(e:lg):aC:=XR K e.ct e.xs e.f&&(nQ (fdOf K e.f).params e.xs&&aX (a_ e.dm 0) (YV (fdOf K e.f).defaults) (TX K (fdOf K e.f)&&(e.xs==Nl)))
theorem Td(fd:dR)(vs:ae ak):FA.map (λ e=>bindArgs (XW fd e.xs .none) ⟨vz e.xs vs,[]⟩)=FA.map λ e=>pure (e.xs.zip (vz e.xs vs)):=by kernel_rfl
theorem WJ{e:lg}(he:e∈FA):RB e.xs:=λ fd vs=>iP.mp (Td fd vs) e he
structure WK(prog:aK)(w:bw) where
 K:eI
 tabs:tabsOk K TT=true
 fns:FA.all (B7 K)=true
 abj:FA.map (λ e=>(fdOf K e.f).body)=FA.map (λ e=>fX (e.b (P0 prog w)).bA)
abbrev xV:=au->ae TV->ae TO->aq (ae Out)
def PV{prog:aK}{w:bw}(W:WK prog w)(X:BM->Prop)(hX:∀G G',dG G G'->X G->X G')(d:Nat)(j:aC)(cB:xV):cC:=YM prog w W.K TT W.tabs X hX d j cB
theorem Tg(P Q:cC):FA.map (λ e=>(e.b P).bA)=FA.map (λ e=>(e.b Q).bA):=by kernel_rfl
section
variable{prog:aK}{w:bw}(W:WK prog w){X:BM->Prop}{hX:∀G G',dG G G'->X G->X G'}{d:Nat}{j:aC}{cB:xV}
theorem JQ:FT.all (λ e=>(e.b (PV W X hX (d+1) j cB)).ch)=true:=by kernel_rfl
theorem RC{e:lg}(he:e∈FT):e.ct.tb=false:=by
 have h:FT.all (λ e=>!e.ct.tb)=true:=by kernel_rfl
 simpa using aY.mp h e he
theorem Te:FJ.all (λ e=>(e.b (PV W X hX (d+1) true cB)).ch)=true:=by kernel_rfl
noncomputable def B3(dm:Nat):ae AV:=aX (a_ dm 1) [.int 0] []
theorem Tf:FL.all (λ e=>(e.b (PV W X hX (d+1) j cB)).ch)=true:=by kernel_rfl
theorem Ek{e:lg}(bd:RB e.xs)(h0:a_ e.dm 0=true)(hf:B7 W.K e=true)(hb:(fdOf W.K e.f).body=fX (e.b (PV W X hX d j cB)).bA):FnAt (PV W X hX d j cB) e.ct e.f e.xs [] (e.b (PV W X hX d j cB)).bA:=
 have h1:=aF hf
 have h2:=aF h1.2
 z8 (P:=PV W X hX d j cB) h1.1 hb λ s vals aa l=>sT bd h2.1 (Ms ((ah (aX · _ _) h0).symm.trans h2.2)) s vals l
theorem TS{n:Nat}(h:a_ n 1=true):B3 n=[.int 0]:=ah (aX · _ _) h
theorem KQ{n:Nat}(h:a_ n 1=false):B3 n=[]:=ah (aX · _ _) h
theorem zX{e:lg}(he:e∈FA):∃dv,(∀G ρ,bJ G ρ (B3 e.dm) dv)/\FnAt (PV W X hX d j cB) e.ct e.f e.xs dv (e.b (PV W X hX d j cB)).bA:=by
 have hb:=(iP.mp W.abj e he).trans (ah fX (iP.mp (Tg (P0 prog w) (PV W X hX d j cB)) e he))
 have hf:=aY.mp W.fns e he
 have h1:=aF hf
 have h2:=aF h1.2
 cases q:a_ e.dm 0 with
 |true=>exact⟨[],λ G ρ=>(KQ (ah (a_ · 1) (aL q))).symm▸bJ.nil,Ek W (WJ he) q hf hb⟩
 |false=>
  have h3:=aF ((ah (aX · _ _) q).symm.trans h2.2)
  have ex:e.xs=Nl:=a4.mp h3.2
  have h4:nQ (fdOf W.K e.f).params Nl=true:=ex▸h2.1
  refine(O_ h3.1).elim λ T z=>z.elim λ o z=>z.elim λ t z=>z.elim λ n z=>?_
  cases q2:a_ e.dm 1 with
  |true=>exact⟨[.int 0 t],λ G ρ=>(TS q2).symm▸bJ.cons VR.mF bJ.nil,z8 (P:=PV W X hX d j cB) h1.1 hb λ s vals hK l=>ex.symm▸EJ h4 z.1 s (hK _ _ z.2.1) z.2.2 vals (eJ (l.trans (ah fZ ex)))⟩
  |false=>exact⟨[],λ G ρ=>(KQ q2).symm▸bJ.nil,z8 (P:=PV W X hX d j cB) h1.1 hb λ s vals hK l=>ex.symm▸(bS vals).symm▸KU h4 z.1 s (hK _ _ z.2.1) z.2.2 vals (l.trans (ah fZ ex))⟩
end
noncomputable def bR:xV:=λ aa aa aa=>none
def PQ{prog:aK}{w:bw}(W:WK prog w)(X:BM->Prop)(hX:∀G G',dG G G'->X G->X G')(d:Nat):cC:=PV W X hX d true bR
section
variable{prog:aK}{w:bw}{W:WK prog w}{X:BM->Prop}{hX:∀G G',dG G G'->X G->X G'}{d:Nat}{j:aC}{cB:xV}
theorem at_of{i:Nat}{e:lg}(h:FJ[i]?=af e)(h0:e.dm=0):FnAt (PV W X hX d j cB) e.ct e.f e.xs [] (e.b (PV W X hX d j cB)).bA:=
 (zX W (X:=X) (hX:=hX) (d:=d) (j:=j) (cB:=cB) (dA FL (cD FT (dB h)))).elim λ dv z=>
  (h0▸z.1 (λ aa=>none) []:bJ (λ aa=>none) [] (B3 0) dv).u0 (Q:=λ dv=>FnAt (PV W X hX d j cB) e.ct e.f e.xs dv (e.b (PV W X hX d j cB)).bA->FnAt (PV W X hX d j cB) e.ct e.f e.xs [] (e.b (PV W X hX d j cB)).bA) id z.2
theorem zM:FnAt (PQ W X hX d) mj 256 ["bins","at"] [] (pW (PQ W X hX d)).bA:=at_of (i:=0) rfl rfl
theorem zL:FnAt (PQ W X hX d) mi 263 ["bins","at"] [] (pV (PQ W X hX d)).bA:=at_of (i:=1) rfl rfl
theorem qT:FnAt (PQ W X hX d) gV 529 ["self"] [] (jI (PQ W X hX d)).bA:=at_of (i:=2) rfl rfl
theorem tC:FnAt (PQ W X hX d) g5 536 ["self","bins","at","bit"] [] (lQ (PQ W X hX d)).bA:=at_of (i:=3) rfl rfl
theorem rR:FnAt (PQ W X hX d) cm 543 ["self"] [] (ku (PQ W X hX d)).bA:=at_of (i:=4) rfl rfl
theorem oN:FnAt (PQ W X hX d) cJ 550 ["self"] [] (iC (PQ W X hX d)).bA:=at_of (i:=5) rfl rfl
theorem oM:FnAt (PQ W X hX d) fR 557 ["self"] [] (iB (PQ W X hX d)).bA:=at_of (i:=6) rfl rfl
theorem qU:FnAt (PQ W X hX d) cw 564 ["self"] [] (jJ (PQ W X hX d)).bA:=at_of (i:=7) rfl rfl
theorem p4{i:Nat}{e:lg}(h:FJ[i]?=af e):(e.b (PQ W X hX (d+1))).ch=true:=aY.mp (Te W (X:=X) (hX:=hX) (d:=d) (cB:=bR)) e (dB h)
theorem x9:(pW (PQ W X hX (d+1))).ch=true:=p4 (i:=0) rfl
theorem x8:(pV (PQ W X hX (d+1))).ch=true:=p4 (i:=1) rfl
theorem pY:(jI (PQ W X hX (d+1))).ch=true:=p4 (i:=2) rfl
theorem sA:(lQ (PQ W X hX (d+1))).ch=true:=p4 (i:=3) rfl
theorem qY:(ku (PQ W X hX (d+1))).ch=true:=p4 (i:=4) rfl
theorem n8:(iC (PQ W X hX (d+1))).ch=true:=p4 (i:=5) rfl
theorem n7:(iB (PQ W X hX (d+1))).ch=true:=p4 (i:=6) rfl
theorem pZ:(jJ (PQ W X hX (d+1))).ch=true:=p4 (i:=7) rfl
noncomputable def Xy(dm:Nat):ae TV:=aX (a_ dm 1) [.ex (.int 0)] []
theorem TU(dm:Nat):dH (Xy dm) (B3 dm):=by
 unfold Xy B3
 cases a_ dm 1
 ·rfl
 ·exact⟨_,[],rfl,rfl,rfl⟩
theorem dH.app:∀{ts u7:ae TV} {us ry:ae AV},dH ts us->dH u7 ry->dH (ts++u7) (us++ry)
 |[],u7,_,ry=>λ h g=>h.u0 (Q:=λ us=>dH u7 (us++ry)) g
 |t::ts,u7,_,ry=>λ h g=>h.uc (Q:=λ us=>dH (t::ts++u7) (us++ry)) λ aa aa a h=> .cons a (dH.app h g)
def fzO(n:Nat)(o:Out):aq Out:=ob (toAV o.1) λ v=>ob (toAOs o.2) λ m=>ob (N1 n v.1 m.1) λ r=>ob (Mw r.2) λ t=>af (.ex r.1,t.1)
abbrev fzL(n:Nat):ae Out->aq (ae Out):=i2 (fzO n)
theorem wN{α β:Type}{g:α->aq β}:∀{l:ae α} {r:ae β},i2 g l=af r->∀a∈l,∃b,b∈r/\g a=af b
 |[],_=>λ aa aa h=>bt h bK
 |a::l,r=>λ h=>ob.u h λ y e h=>ob.u h λ ys e2 h=>am h▸aJ.mpr ⟨⟨y,aR,e⟩,λ x hx=>(wN e2 x hx).imp λ aa=> .imp_left (aP _)⟩
theorem DW.fz{P:cC}{f:au}{vs:ae AV}{m:ae AO}{outs SD:ae Out}(h:DW P f vs m outs)(e:fzL m.length outs=af SD):DW P f vs m SD:=
 h.elim λ v h=>h.elim λ m' h=>h.1.elim λ o z=>(wN e o z.1).elim λ o' y=>ob.u y.2 λ v0 aa e=>ob.u e λ m0 aa e=>ob.u e λ r hr e=>ob.u e λ t aa e=>
  ⟨r.1,r.2,⟨o',y.1,am e▸⟨rfl,C7 t.2⟩⟩,WC.fz (h.2.mono λ v' U4 q=>⟨r,(ah (λ x=>N1 m.length x U4) (q.1.trans (v0.2 _ z.2.1))).trans ((ah (N1 m.length v0.1) (q.2.trans (m0.2 m' m' z.2.2.len.symm z.2.2.get))).trans hr),rfl,rfl⟩)⟩
def fzC(b:aC)(n:Nat)(x:aq (ae Out)):aq (ae Out):=aX b (ob x (fzL n)) x
def SO(P:cC)(e:lg)(ts:ae TV)(tm:ae TO):aq (ae Out):=aX (a_ (ts++Xy e.dm).length e.xs.length) (aX e.WE (ZH (λ ts=>Vy false false (e.b P) ts tm) (ts++Xy e.dm)) (Vy e.nj e.wide (e.b P) (ts++Xy e.dm) tm)) none
def Zr(P:cC)(e:lg)(ts:ae TV)(tm:ae TO):aq (ae Out):=fzC e.fz tm.length (SO P e ts tm)
noncomputable def K4(P:cC):ae lg->xV
 |[],_,_,_=>none
 |e::r,f,ts,tm=>aX (a_ e.f f) (oe (Zr P e ts tm) (K4 P r f ts tm)) (K4 P r f ts tm)
section
variable{P:cC}(hP:P=PV W X hX (d+1) j cB)(fo:l6 P)
include hP fo
theorem Dp{e:lg}(he:e∈FT){ts:ae TV}{tm:ae TO}{outs:ae Out}(h:SO P e ts tm=af outs){vs:ae AV}{m:ae AO}(gv:dH ts vs)(gm:GM tm m):DW P.up e.f vs m outs:=
 condB h (λ hl h=>have gv':=gv.app (TU e.dm); have key:Eg (e.b P) ⟨fill e.ct.aS (vs++B3 e.dm),m⟩ (λ o=>o∈outs):=condB h (λ aa h=>Q6 (λ aa aa=>Eg.imp) h gv' λ aa aa e1 g1=>HB fo e1 g1 gm) λ aa h=>HB fo h gv' gm
  (by
   subst hP
   rcases key with⟨v,m',o,ho,g1,g2,r⟩
   exact(zX W (X:=X) (hX:=hX) (d:=d+1) (j:=j) (cB:=cB) (dA FL (dA FJ he))).elim λ dv z=>⟨v,m',⟨o,ho,g1,g2⟩,WC.fn z.2 z.1 (aY.mp (JQ W) e he) (RC he) ((ah (vs.length+·) (z.1 (λ aa=>none) []).length).trans (bj.symm.trans (gv'.len.trans (aL hl)))) r⟩)) λ aa h=>cu h
theorem QR{e:lg}(he:e∈FT){ts:ae TV}{tm:ae TO}{outs:ae Out}(h:Zr P e ts tm=af outs){vs:ae AV}{m:ae AO}(gv:dH ts vs)(gm:GM tm m):DW P.up e.f vs m outs:=
 condB h (λ aa h=>ob.u h λ l e1 e2=>(Dp hP fo he e1 gv gm).fz (gm.len▸e2)) λ aa h=>Dp hP fo he h gv gm
theorem GG:∀{l:ae lg},(∀e∈l,e∈FT)->∀{f:au} {ts:ae TV} {tm:ae TO} {outs:ae Out},K4 P l f ts tm=af outs->∀{vs:ae AV} {m:ae AO},dH ts vs->GM tm m->DW P.up f vs m outs
 |[],_,_,_,_,_=>λ h=>cu h
 |e::r,hl,f,ts,tm,outs=>λ h vs m gv gm=>have k:=aJ.mp hl; have ih h:=GG k.2 (f:=f) (ts:=ts) (tm:=tm) (outs:=outs) h gv gm
  condB h (λ q h=>oe.v h (λ h=>aL q▸QR hP fo k.1 h gv gm) ih) λ aa h=>ih h
end
theorem DW.le{P Q:cC}(x:P.Le Q){f:au}{vs:ae AV}{m:ae AO}{outs:ae Out}(h:DW P f vs m outs):DW Q f vs m outs:=h.imp λ aa=> .imp λ aa=> .imp_right (WC.up x)
end
noncomputable def sY:ae Nat->Nat->aC
 |[],_=>true
 |i::r,n=>fu i n&&(r.all (λ j=>!a_ i j)&&sY r n)
theorem qF:∀{l:ae Nat} {n:Nat},sY l n=true->l.Nodup/\∀i∈l,i < n
 |[],_=>λ aa=>⟨gA,λ aa h=>bt h bK⟩
 |i::r,n=>λ h=>have h:=aF h; have h':=aF h.2; have z:=qF h'.2
  ⟨dU.mpr ⟨λ hm=>ay ((ah (!·) (uM i)).symm.trans (aY.mp h'.1 i hm)),z.1⟩,aJ.mpr ⟨lR h.1,z.2⟩⟩
abbrev On(M:ae AO)(sel:ae Nat)(mem:ae AO):Prop:=i2 (bM M) sel=af (mem.map (lq (eU sel M.length)))
theorem WC.use{P:cC}{f:au}{dx qV:ae AV}{mem:ae AO}{WU K:AV->ae AO->Prop}(sel:ae Nat){M:ae AO}(h:WC P f dx mem WU)(ha:qV=eu (eU sel M.length) dx)(vA:sY sel M.length=true)(len:sel.length=mem.length)
  (hm:On M sel mem) (k:∀v m,WU v m->K (ew (eU sel M.length) v) (upd (eU sel M.length) sel m M)):WC P f qV M K:=
 ha▸(WC.B6 h sel M (qF vA).1 len λ i j ao h1 h2=>(vq hm i _ (eQ.trans (ah (ed _) h2))).elim λ x w=>(am (w.1.symm.trans h1):x=j)▸(eL _ _).symm.trans w.2).mono λ v m z=>z.elim λ pj z=>z.elim λ mem' z=>z.2.1▸z.2.2.1▸k _ _ z.1
theorem WC.FM{P:cC}{f:au}{dx qV:ae AV}{mem:ae AO}{td:AV}{CZ:ae AO}{K:AV->ae AO->Prop}(sel:ae Nat){M:ae AO}(h:WC P f dx mem (λ v m=>v=td/\m=CZ))(ha:qV=eu (eU sel M.length) dx)(vA:sY sel M.length=true)(len:sel.length=mem.length)
  (hm:On M sel mem) (k:K (ew (eU sel M.length) td) (upd (eU sel M.length) sel CZ M)):WC P f qV M K:=
 WC.use sel h ha vA len hm λ v m z=>z.1▸z.2▸k
theorem tL:∀{l:ae Int} {i:Nat},i < l.length->intAt l i∈l
 |_::_,0,_=>aR
 |_::r,i+1,h=>aP _ (tL (l:=r) (by simpa using h))
theorem xc:∀(l:ae Int) (i:Nat) (v:Int),(setInt l i v).length=l.length:=λ l i v=>by rw[qG]; simp
theorem xd{l:ae Int}{i:Nat}{v x:Int}(h:x∈setInt l i v):x=v\/x∈l:=by
 rw[qG] at h
 exact(List.mem_or_eq_of_mem_set h).symm
structure kt(n:Nat)(ss ns:ae Int):Prop where
 s:ss.length=n
 n:ns.length=n
 so:∀x∈ss,0<=x/\x < 114
 no:∀x∈ns,x=0\/x=1
structure Ol(r:ae Int):Prop where
 n:r.length=4
 l0:1<=intAt r 0
 l1:intAt r 0<=23314
 a:0<=intAt r 1/\intAt r 1 < 114
 b:0<=intAt r 2/\intAt r 2 < 114
def ac2(r:ae Int):aC:=(a_ r.length 4)&&(decide (1<=intAt r 0)&&(decide (intAt r 0<=23314)&&(decide (0<=intAt r 1/\intAt r 1 < 114)&&decide (0<=intAt r 2/\intAt r 2 < 114))))
theorem HA:(Wp.all ac2&&a_ Wp.length 114)=true:=by decide+kernel
theorem zl:∀{l:ae (ae Int)} {i:Nat},i < l.length->rowAt l i∈l
 |_::_,0,_=>aR
 |_::r,i+1,h=>aP _ (zl (l:=r) (by simpa using h))
theorem Om:Wp.length=114:=aL (aF HA).2
theorem Vx{x:Int}(h:0<=x/\x < 114):Ol (rowAt Wp x.toNat):=
 have z:=aF (aY.mp (aF HA).1 _ (zl (io ((mW h.1).mpr h.2) Om.symm)))
 have y:=aF z.2; have x:=aF y.2; have w:=aF x.2
 ⟨aL z.1,bg y.1,bg x.1,bg w.1,bg w.2⟩
theorem nd{p:Prop}[fD p]{k:Prop}(q:p)(h:k):need p k:=by unfold need; rw[cz q]; exact h
theorem br{p:Prop}[fD p]{a b:Prop}(h1:p->a)(h2:¬p->b):aX (decide p) a b:=by
 by_cases q:p
 ·rw[cz q]; exact h1 q
 ·rw[dj q]; exact h2 q
noncomputable def gY{α:Type}(R:(α->Prop)->Prop)(I:α->Prop):Prop:=∃a,I a/\∀K:α->Prop,K a->R K
section
variable{α β:Type}{I:α->Prop}
noncomputable abbrev cM(i:Int)(n:Nat):Prop:=0<=i/\i < (n:Int)/\i < 4611686018427387904
theorem Es{i:Int}{n L:Nat}(h0:0<=i)(h1:i < n)(hb:n < 1000)(e:L=n):cM i L:=⟨h0,e▸h1,dr h1 (dr (mV.mpr hb) (by decide))⟩
theorem gY.ret{a:α}(h:I a):gY (λ K=>K a) I:=⟨a,h,λ aa k=>k⟩
theorem gY.nd{p:Prop}[fD p]{R:(α->Prop)->Prop}(q:p)(h:gY R I):gY (λ K=>need p (R K)) I:=let ⟨a,i,k⟩:=h; ⟨a,i,λ K z=>Mine.nd q (k K z)⟩
theorem gY.br{b:aC}{A B:(α->Prop)->Prop}(h1:b=true->gY A I)(h2:b=false->gY B I):gY (λ K=>aX b (A K) (B K)) I:=by
 cases b with
 |true=>exact h1 rfl
 |false=>exact h2 rfl
theorem gY.TE{p:Prop}[fD p]{A B:(α->Prop)->Prop}(h1:p->gY A I)(h2:¬p->gY B I):gY (λ K=>aX (decide p) (A K) (B K)) I:=
 gY.br (λ h=>h1 (bg h)) λ h=>h2 (oH h)
end
noncomputable def fm(P:cC)(f:au)(dx:ae AV)(mem:ae AO)(I:AV->ae AO->Prop):Prop:=∃v m,I v m/\WC P f dx mem λ v' m'=>v'=v/\m'=m
theorem fm.fn{P:cC}{ct:Ct}{f:au}{xs:ae bI}{dv:ae ak}{da:ae AV}{b:SS P ct}{dx:ae AV}{mem:ae AO}{I:AV->ae AO->Prop}(H:FnAt P ct f xs dv b.bA)(hd:∀G ρ,bJ G ρ da dv)(ch:b.ch=true)(LB:ct.tb=false)
  (hl:dx.length+dv.length=xs.length) (h:gY (λ K=>b.run ⟨fill ct.aS (dx++da),mem⟩ (iE λ v m=>K (v,m))) λ a=>I a.1 a.2):fm P.up f dx mem I:=by
 obtain⟨⟨v,m⟩,i,k⟩:=h
 exact⟨v,m,i,WC.fn H hd ch LB hl (k (λ a=>a.1=v/\a.2=m) ⟨rfl,rfl⟩)⟩
theorem gY.yF{P:cC}{f:au}{dx:ae AV}{mem:ae AO}{J:AV->ae AO->Prop}{α:Type}{I:α->Prop}{C:AV->ae AO->(α->Prop)->Prop}(h:fm P f dx mem J)
  (k:∀v m,J v m->gY (C v m) I):gY (λ K=>WC P f dx mem λ v m=>C v m K) I:=by
 obtain⟨v,m,j,z⟩:=h
 obtain⟨a,i,c⟩:=k v m j
 exact⟨a,i,λ K hk=>z.mono λ v' m' e=>by obtain⟨rfl,rfl⟩:=e; exact c K hk⟩
theorem fm.at{P:cC}{f:au}{dx qV:ae AV}{mem:ae AO}{J I:AV->ae AO->Prop}(sel:ae Nat){M:ae AO}(h:fm P f dx mem J)(ha:qV=eu (eU sel M.length) dx)(vA:sY sel M.length=true)(len:sel.length=mem.length)
  (hm:On M sel mem) (k:∀v m,J v m->bB sel.length m.length=true/\I (ew (eU sel M.length) v) (upd (eU sel M.length) sel m M)):fm P f qV M I:=by
 obtain⟨v,m,j,z⟩:=h
 obtain⟨l,i⟩:=k v m j
 exact⟨_,_,i,WC.FM sel z ha vA len hm ⟨rfl,rfl⟩⟩
theorem fm.use{P:cC}{f:au}{dx qV:ae AV}{mem:ae AO}{J I:AV->ae AO->Prop}(sel:ae Nat){M:ae AO}(h:fm P f dx mem J)(ha:qV=eu (eU sel M.length) dx)(vA:sY sel M.length=true)(len:sel.length=mem.length)
  (hm:On M sel mem) (k:∀v m,J v m->I (ew (eU sel M.length) v) (upd (eU sel M.length) sel m M)):fm P f qV M I:=h.elim λ v z=>z.elim λ m z=>⟨_,_,k v m z.1,WC.FM sel z.2 ha vA len hm ⟨rfl,rfl⟩⟩
def uI(t:St->(aC->St->Prop)->Prop)(b:St->(Fl->St->Prop)->Prop)(σ:St)(K:Sum St (Fl×St)->Prop):Prop:=
 t σ λ c aI=>aX c (b aI λ f aV=>sd f aV (λ dC=>K (.inl dC)) λ f b7=>K (.inr (f,b7))) (K (.inr (.d8,aI)))
noncomputable def WR(I:Nat->St->Prop)(J:Fl×St->Prop)(n:Nat):Sum St (Fl×St)->Prop
 | .inl σ=>∃m,m < n/\I m σ
 | .inr a=>J a
def wGo(t:St->(aC->St->Prop)->Prop)(b:St->(Fl->St->Prop)->Prop)(N:Nat)(K:Fl×St->Prop):Sum St (Fl×St)->Prop
 | .inl σ=>lZ t b N σ λ f b7=>K (f,b7)
 | .inr a=>K a
theorem gY.while{t:St->(aC->St->Prop)->Prop}{b:St->(Fl->St->Prop)->Prop}{I:Nat->St->Prop}{J:Fl×St->Prop}(step:∀n σ,I n σ->gY (uI t b σ) (WR I J n))(n:Nat):∀σ:St,I n σ->gY (λ K=>∃N,lZ t b N σ λ f b7=>K (f,b7)) J:=
 n.strongRecOn (motive:=λ n=>∀σ:St,I n σ->gY (λ K=>∃N,lZ t b N σ λ f b7=>K (f,b7)) J) λ n ih σ hi=>(step n σ hi).elim λ r z=>match r,z with
  | .inl b7,z=>z.1.elim λ m y=>(ih m y.1 b7 y.2).imp λ a x=>⟨x.1,λ K hk=>(x.2 K hk).elim λ N h=>⟨N+1,z.2 (wGo t b N K) h⟩⟩
  | .inr a,z=>⟨a,z.1,λ K hk=>⟨1,z.2 (wGo t b 0 K) hk⟩⟩
theorem gY.eqv{α:Type}{I:α->Prop}{R R':(α->Prop)->Prop}(e:∀K,R K=R' K)(h:gY R' I):gY R I:=h.imp λ a=> .imp_right λ k K z=>(e K).mpr (k K z)
def pI{P:cC}{ct:Ct}(b:SS P ct)(K:Fl->St->Prop)(f:Fl)(σ:St):Prop:=sd f σ (λ σ=>b.run σ K) K
theorem fm.go{P:cC}{ct:Ct}{f:au}{xs:ae bI}{b:SS P ct}{dx:ae AV}{mem:ae AO}{I:AV->ae AO->Prop}(H:FnAt P ct f xs [] b.bA)(ch:b.ch=true)(LB:ct.tb=false)(hl:dx.length=xs.length){R:(AV×ae AO->Prop)->Prop}
  (e:∀K,b.run ⟨fill ct.aS (dx++[]),mem⟩ (iE λ v m=>K (v,m))=R K) (h:gY R λ a=>I a.1 a.2):fm P.up f dx mem I:=
 fm.fn H (λ aa aa=>bJ.nil) ch LB hl (gY.eqv e h)
theorem gY.and{α:Type}{I:α->Prop}{p:Prop}{R:(α->Prop)->Prop}(q:p)(h:gY R I):gY (λ K=>p/\R K) I:=let ⟨a,i,k⟩:=h; ⟨a,i,λ K z=>⟨q,k K z⟩⟩
theorem gY.W8{α:Type}{I:α->Prop}{p:Prop}{R:(α->Prop)->Prop}(q:p)(h:gY R I):gY (λ K=>R K/\p) I:=let ⟨a,i,k⟩:=h; ⟨a,i,λ K z=>⟨k K z,q⟩⟩
theorem gY.loop{α:Type}{I:α->Prop}{t:St->(aC->St->Prop)->Prop}{b:St->(Fl->St->Prop)->Prop}{σ:St}{J:Fl×St->Prop}{C:(α->Prop)->Fl->St->Prop}(h:gY (λ K=>∃N,lZ t b N σ λ f b7=>K (f,b7)) J)(hc:∀r,J r->gY (λ K=>C K r.1 r.2) I):gY (λ K=>∃N,lZ t b N σ (C K)) I:=
 h.elim λ r z=>(hc r z.1).imp λ a y=>⟨y.1,λ K k=>z.2 (λ x=>C K x.1 x.2) (y.2 K k)⟩
noncomputable def Ta(n:Int)(len k:Nat):Prop:=(0<=n/\n < len/\n < 4611686018427387904/\k=n.toNat)\/(n= -1/\0 < len/\k=len - 1)
theorem gY.tD{α:Type}{I:α->Prop}{n:Int}{len:Nat}{C:Nat->(α->Prop)->Prop}{k:Nat}(h:Ta n len k)(hc:gY (C k) I):gY (λ K=>tD n len λ k=>C k K) I:=
 hc.imp λ a z=>⟨z.1,λ K y=>h.elim (λ h=> .pos h.1 h.2.1 h.2.2.1 (h.2.2.2▸z.2 K y)) λ h=> .last h.1 h.2.1 (h.2.2▸z.2 K y)⟩
theorem Ml{a b:Int}(ha:a.natAbs < 2 ^ 60)(hb:b.natAbs < 2 ^ 60):jF a b:=Jx (tt.mpr ha) (tt.mpr hb) (by decide)
theorem nf{A B:Prop}(e:A=B)(h:B):A:=e.mpr h
theorem WC.known{P:cC}{f:au}{dx:ae AV}{mem CZ:ae AO}{td:AV}{K:AV->ae AO->Prop}(h:WC P f dx mem λ v m=>v=td/\m=CZ)(k:K td CZ):WC P f dx mem K:=h.mono λ aa aa q=>q.1.symm▸q.2.symm▸k
theorem sq{α:Type}{P:α->Prop}:∀x∈([]:ae α),P x:=λ aa h=>nomatch h
theorem all2{α:Type}{P:α->Prop}{a:α}{l:ae α}(h:P a)(k:∀x∈l,P x):∀x∈a::l,P x:=aJ.mpr ⟨h,k⟩
theorem r6{α β:Type}{f g:α->β}{l:ae α}(h:l.map f=l.map g):∀a∈l,f a=g a:=iP.mp h
section
variable{prog:aK}{w:bw}{W:WK prog w}{X:BM->Prop}{hX:∀G G',dG G G'->X G->X G'}
noncomputable def zO(ss ns:ae Int):ae AO:=[.ns [0,1] [.own 2, .own 3], .inst 245 0, .il ss, .il ns]
def w8(ss:ae Int)(i:Int):ae Int:=rowAt Wp (intAt ss i.toNat).toNat
inductive Bx(n:Nat)(M:ae Int->ae Int->ae AO)(v:AV)(m:ae AO):Prop
 |mk (ss ns:ae Int) (hv:v= .none) (hm:m=M ss ns) (B:kt n ss ns)
theorem Bx.u{n:Nat}{M:ae Int->ae Int->ae AO}{v:AV}{m:ae AO}{G:AV->ae AO->Prop}(h:Bx n M v m)(k:∀ss ns,kt n ss ns->G .none (M ss ns)):G v m:=Bx.casesOn (motive:=λ aa=>G v m) h λ ss ns hv hm B=>hv▸hm▸k ss ns B
theorem Ol.ix{l:ae Int}(r:Ol l){k:Int}(h0:0<=k)(h1:k < 4):cM k l.length:=Es (n:=4) h0 h1 (by decide) r.n
theorem kt.set{n:Nat}{ss ns:ae Int}(B:kt n ss ns)(k:Nat){v:Int}(h:0<=v/\v < 114):kt n (setInt ss k v) ns:=⟨(xc ..).trans B.s,B.n,λ x hx=>(xd hx).elim (λ e=>e▸h) (B.so x),B.no⟩
theorem kt.qh{n:Nat}{ss ns:ae Int}(B:kt n ss ns)(k:Nat){v:Int}(h:v=0\/v=1):kt n ss (setInt ns k v):=⟨B.s,(xc ..).trans B.n,B.so,λ x hx=>(xd hx).elim (λ e=>e▸h) (B.no x)⟩
structure N_(n:Nat)(ss ns:ae Int)(i:Int):Prop where
 B:kt n ss ns
 b:cM i ss.length
 c:cM i ns.length
 s:cM (intAt ss i.toNat) 114
 r:Ol (w8 ss i)
 v:1 - intAt ns i.toNat=0\/1 - intAt ns i.toNat=1
theorem kt.p{n:Nat}{ss ns:ae Int}{i:Int}(B:kt n ss ns)(h0:0<=i)(h1:i < n)(hb:n < 1000):N_ n ss ns i:=
 have lt:i.toNat < n:=(mW h0).mpr h1
 have s:=B.so _ (tL (B.s.symm▸lt))
 ⟨B,Es h0 h1 hb B.s,Es h0 h1 hb B.n,⟨s.1,s.2,dr s.2 (by decide)⟩,Vx s,(B.no _ (tL (B.n.symm▸lt))).elim (λ e=> .inr (e.symm▸rfl)) λ e=> .inl (e.symm▸rfl)⟩
theorem Mj{d:Nat}{n:Nat}{ss ns:ae Int}{i:Int}(p:N_ n ss ns i):fm (PQ W X hX (d+2)) 256 [.own 1, .int i] (zO ss ns) (Bx n zO):=
 fm.go (P:=PQ W X hX (d+1)) zM x9 rfl rfl (R:=λ K=>need (cM i ss.length) (need (cM (intAt ss i.toNat) 114) (need (cM 2 (w8 ss i).length) (need (cM i ss.length) (K (.none,zO (setInt ss i.toNat (intAt (w8 ss i) 2)) ns)))))) (λ K=>by kernel_rfl)
  (.nd p.b (.nd p.s (.nd (p.r.ix (by decide) (by decide)) (.nd p.b (.ret ⟨_,_,rfl,rfl,p.B.set _ p.r.b⟩)))))
theorem L8{d:Nat}{n:Nat}{ss ns:ae Int}{i:Int}(p:N_ n ss ns i):fm (PQ W X hX (d+2)) 263 [.own 1, .int i] (zO ss ns) (Bx n zO):=
 fm.go (P:=PQ W X hX (d+1)) zL x8 rfl rfl (R:=λ K=>need (cM i ss.length) (need (cM (intAt ss i.toNat) 114) (need (cM 3 (w8 ss i).length)
   (aX (intAt (w8 ss i) (gQ 3)==1) (need (cM i ns.length) (need (cM i ns.length) (need (cM 1 (w8 ss i).length) (need (cM i ss.length) (K (.none,zO (setInt ss i.toNat (intAt (w8 ss i) 1)) (setInt ns i.toNat (1 - intAt ns i.toNat))))))))
    (need (cM 1 (w8 ss i).length) (need (cM i ss.length) (K (.none,zO (setInt ss i.toNat (intAt (w8 ss i) 1)) ns)))))))) (λ K=>by kernel_rfl)
  (.nd p.b (.nd p.s (.nd (p.r.ix (by decide) (by decide)) (.br (λ aa=> .nd p.c (.nd p.c (.nd (p.r.ix (by decide) (by decide)) (.nd p.b (.ret ⟨_,_,rfl,rfl,(p.B.set _ p.r.a).qh _ p.v⟩)))))
   λ aa=> .nd (p.r.ix (by decide) (by decide)) (.nd p.b (.ret ⟨_,_,rfl,rfl,p.B.set _ p.r.a⟩))))))
noncomputable def encM(size code left:Int)(bs:ae bZ):ae AO:=[.ns [13,14,15,16] [.int size, .int code, .int left, .own 2], .inst 567 0, .ba bs]
theorem yc{l:ae bZ}{i:Nat}{v:bZ}(h:i < l.length):(l.set i v).getD i 0=v:=by rw[gj,List.getElem?_set_self h,Option.getD_some]
theorem Ck{l:ae bZ}{i j:Nat}{v:bZ}(h:i≠j):(l.set i v).getD j 0=l.getD j 0:=by rw[gj,List.getElem?_set_ne h,← gj]
def C6(size code left oc i:Int)(bs:ae bZ):St:=⟨[.own 1, .int oc, .int i],encM size code left bs⟩
inductive Ig(size code left oc:Int)(L n:Nat)(σ:St):Prop
 |mk (bs:ae bZ) (Sn:σ=C6 size code left oc (n - 1) bs) (hn:n<=L) (hl:bs.length=L) (hz:n=L\/bs.getD (L - 1) 0=0)
inductive Tj(size code left oc:Int)(L:Nat)(r:Fl×St):Prop
 |mk (i:Int) (k:Nat) (bs:ae bZ) (hr:r=(.d8,C6 size code left oc i bs)) (hl:bs.length=L) (hk:Ta i bs.length k) (hv:bs.getD k 0≠255)
theorem Ig.u{size code left oc:Int}{L n:Nat}{σ:St}{G:Nat->St->Prop}(h:Ig size code left oc L n σ)(h0:0 < L)(k0:∀bs:ae bZ,bs.length=L->bs.getD (L - 1) 0=0->G 0 (C6 size code left oc (-1) bs))
  (k1:∀(m:Nat) (bs:ae bZ),bs.length=L->m < L->m+1=L\/bs.getD (L - 1) 0=0->G (m+1) (C6 size code left oc m bs)):G n σ:=by
 cases h with|mk bs Sn hn hl hz=>
 subst Sn
 cases n with
 |zero=>exact k0 bs hl (hz.resolve_left (dO h0))
 |succ m=>exact(Int.add_sub_cancel (m:Int) 1)▸k1 m bs hl hn hz
theorem Gs(b:bZ)(h:b≠255):0<=(b.toNat:Int)+1/\(b.toNat:Int)+1 < 256:=by
 have h1:=b.toNat_lt
 have h2:b.toNat≠255:=λ e=>h (UInt8.toNat_inj.mp e)
 omega
theorem big{n:Nat}(h:n < 100000):(n:Int) < 4611686018427387904:=dr (mV.mpr h) (by decide)
theorem byte_at{b:bZ}(h:((b.toNat:Int)==255)=true):b=255:=UInt8.toNat_inj.mp (Int.ofNat.inj (a4.mp h))
theorem Fi{d:Nat}{size code left oc:Int}{L:Nat}(h0:0 < L)(hL:L < 100000)(n:Nat)(σ:St)(h:Ig size code left oc L n σ):
  gY (uI (fb (PQ W X hX d)).run (e_ (PQ W X hX d)).run σ) (WR (Ig size code left oc L) (Tj size code left oc L) n):=
 have nf (i:Int) (bs:ae bZ) (K:Sum St (Fl×St)->Prop):uI (fb (PQ W X hX d)).run (e_ (PQ W X hX d)).run (C6 size code left oc i bs) K=
   tD i bs.length λ k=>aX (((bs.getD k 0).toNat:Int)==255) (need (cM i bs.length) (need (0<=(0:Int)/\(0:Int) < 256/\bs.length < 1000000) (K (.inl (C6 size code left oc (i - 1) (bs.set i.toNat 0)))))) (K (.inr (.d8,C6 size code left oc i bs))):=by kernel_rfl
 Ig.u (G:=λ n σ=>gY (uI (fb (PQ W X hX d)).run (e_ (PQ W X hX d)).run σ) (WR (Ig size code left oc L) (Tj size code left oc L) n)) h h0
  (λ bs hl z=> .eqv (nf _ bs) (.tD (.inr ⟨rfl,hl▸h0,hl▸rfl⟩) (.br (λ q=>nomatch z.symm.trans (byte_at q)) λ aa=> .ret ⟨-1,L - 1,bs,rfl,hl, .inr ⟨rfl,hl▸h0,hl▸rfl⟩,λ e=>nomatch z.symm.trans e⟩)))
  λ m bs hl hm z=>
   have b:cM m bs.length:=⟨kj m,mV.mpr (hl▸hm),big (b_ hm hL)⟩
   have ba:Ta m bs.length m:= .inl ⟨b.1,b.2.1,b.2.2,rfl⟩
   .eqv (nf _ bs) (.tD ba (.br (λ q=> .nd b (.nd ⟨by decide,by decide,hl▸b_ hL (by decide)⟩ (.ret ⟨m,jo m,bs.set m 0,rfl,eX hm,iI.trans hl,
     .inr ((jn m (L - 1)).casesOn (motive:=λ aa=>(bs.set m 0).getD (L - 1) 0=0) (λ n=>(Ck n).trans (z.resolve_left λ e=>n (Nat.eq_sub_of_add_eq e))) λ e=>e▸yc (hl▸hm))⟩)))
    λ q=> .ret ⟨m,m,bs,rfl,hl,ba,λ e=>nomatch (ah (λ b:bZ=>((b.toNat:Int)==255)) e).symm.trans q⟩))
def Y2(P:cC):SS P cJ:=iH (SQ (DM (eZ 0 p0) 16 p0) (eZ 2 p0) p0 .Add (ym 1 p0) p0) lK
def Y3(P:cC):SS P cJ:=iH (Dr (Wc (DM (eZ 0 p0) 16 p0) p0 (iS (eZ 1 p0) qZ) p0 true) p0) lK
theorem fdiv_pow{a:Int}(b:Int)(h:0 < b):a.fdiv b=a / b:=i9 a (eW h)
inductive Ie(L:Nat)(M:ae bZ->ae AO)(v:AV)(m:ae AO):Prop
 |mk (bs:ae bZ) (hv:v= .none) (hm:m=M bs) (hl:bs.length=L+1)
theorem Ie.u{L:Nat}{M:ae bZ->ae AO}{v:AV}{m:ae AO}{G:AV->ae AO->Prop}(h:Ie L M v m)(k:∀bs,bs.length=L+1->G .none (M bs)):G v m:=Ie.casesOn (motive:=λ aa=>G v m) h λ bs hv hm hl=>hv▸hm▸k bs hl
theorem Qn{code:Int}(h0:0<=code)(h1:code < 268435456):code.fdiv (2 ^ gQ 19)=code / 524288/\0<=code / 524288/\code / 524288 < 512/\code.fmod (1 * 2 ^ gQ 19)=code % 524288:=
 ⟨fdiv_pow _ (by decide),xL h0 (by decide),FQ (by decide) h1,i_ _ (by decide)⟩
def Y4(P:cC)(size left oc cr:Int)(bs:ae bZ)(K:AV×ae AO->Prop):Prop:=(0:Int)<=19/\((0:Int)<=19/\((0+1:Nat):Int)+19<=2 ^ 27)/\(1 * 2 ^ gQ 19:Int)≠0/\
 aX (decide (oc > 255)) (need (bs.length < 4611686018427387904) (∃N,lZ (fb P).run (e_ P).run N (C6 size cr left (oc - 256) (bs.length - 1) bs) (pI (Y2 P) (pI (Y3 P) (iE λ v m=>K (v,m))))))
  (("bytearray.append"="bytearray.append"/\need (0<=oc/\oc < 256/\bs.length < 1000000) (K (.none,encM size cr left (bs++[eE oc.toNat]))))/\("bytearray.append"="bytearray.append"->true=true))
theorem Qm{d:Nat}{size cr oc left:Int}{bs:ae bZ}(h0:0<=oc)(h1:oc < 512)(h2:255 < oc->0 < bs.length)(hl:bs.length < 100000):gY (Y4 (PQ W X hX d) size left oc cr bs) λ a=>Ie bs.length (encM size cr left) a.1 a.2:=
 .and (by decide) (.and (by decide) (.and (by decide) (.TE (λ q=>
   .nd (b_ hl (by decide)) (.loop (gY.while (Fi (h2 q) hl) bs.length _ ⟨bs,rfl,cF _,rfl, .inl rfl⟩) λ r j=>Tj.casesOn (motive:=λ aa=>gY (λ K=>pI (Y2 (PQ W X hX d)) (pI (Y3 (PQ W X hX d)) (iE λ v m=>K (v,m))) r.1 r.2) λ a=>Ie bs.length (encM size cr left) a.1 a.2) j λ i k qX hr Ux hk hv=>hr▸
    .eqv (R':=λ K=>tD i qX.length λ k=>need (0<=((qX.getD k 0).toNat:Int)+1/\((qX.getD k 0).toNat:Int)+1 < 256/\qX.length < 1000000) (tD i qX.length λ k₁=>
     ("bytearray.append"="bytearray.append"/\need (0<=oc - 256/\oc - 256 < 256/\(qX.set k₁ (eE (((qX.getD k 0).toNat:Int)+1).toNat)).length < 1000000) (K (.none,encM size cr left (qX.set k₁ (eE (((qX.getD k 0).toNat:Int)+1).toNat)++[eE (oc - 256).toNat]))))/\("bytearray.append"="bytearray.append"->true=true))) (λ K=>by kernel_rfl)
     (.tD hk (.nd ⟨(Gs _ hv).1,(Gs _ hv).2,Ux▸b_ hl (by decide)⟩ (.tD hk (.W8 (λ aa=>rfl) (.and rfl (.nd ⟨mf q,Int.sub_lt_of_sub_lt (Int.sub_lt_sub_right h1 _),aT (aU (iI.trans Ux)) (b_ hl (by decide))⟩ (.ret ⟨_,rfl,rfl,bj.trans (ah (·+1) (iI.trans Ux))⟩)))))))))
  λ q=> .W8 (λ aa=>rfl) (.and rfl (.nd ⟨h0,gB (gX.mp q) (by decide),b_ hl (by decide)⟩ (.ret ⟨_,rfl,rfl,bj⟩))))))
theorem Au{d:Nat}{size code left:Int}{bs:ae bZ}(h0:0<=code)(h1:code < 268435456)(h2:bs.length=0->code < 134217728)(hl:bs.length < 100000):
  fm (PQ W X hX (d+2)) 550 [.own 1] (encM size code left bs) (Ie bs.length (encM size (code % 524288) left)):=
 have z:=Qn h0 h1
 fm.go (P:=PQ W X hX (d+1)) oN n8 rfl rfl (R:=Y4 (PQ W X hX (d+1)) size left (code.fdiv (2 ^ gQ 19)) (code.fmod (1 * 2 ^ gQ 19)) bs) (λ K=>by kernel_rfl)
  (z.1▸z.2.2.2▸Qm z.2.1 z.2.2.1 (λ q=>Nat.pos_of_ne_zero λ e=>bt (FQ (b:=256) (by decide) (h2 e)) (gX.mpr q)) hl)
theorem mZ.turn{lo lo' size code left mP lE:Int}{L:Nat}(E:mZ lo size code left L)(h0:lo'<=mP)(h1:mP<=65536)(h2:0<=lE)(h:lE+mP<=code+size):mZ lo' mP lE left L:=
 have m:=dY h (Int.pow_nonneg (by decide):(0:Int)<=2 ^ left.toNat)
 ⟨h0,h1,h2,E.l0,E.l1,aO m E.cap,λ e=>aO m (E.TF e)⟩
theorem mZ.shift{lo size code left:Int}{L:Nat}(E:mZ lo size code left L){c:Int}(h1:c < code+size):c * 2 ^ left.toNat < 268435456/\(L=0->c * 2 ^ left.toNat < 134217728):=
 have m:=yn h1 (xA (by decide):(0:Int) < 2 ^ left.toNat)
 ⟨dr (kh m E.cap) (by decide),λ e=>kh m (E.TF e)⟩
theorem mZ.code{lo size code left:Int}{L:Nat}(E:mZ lo size code left L)(hp:0<=size):code<=150994944:=
 aO (Int.le_add_of_nonneg_right hp) (aO (aO (dX (rB _).symm) (fE (xA (by decide):(0:Int) < 2 ^ left.toNat) (Int.add_nonneg E.c0 hp))) E.cap)
theorem MI{left:Int}(h:1<=left):(2:Int) ^ left.toNat=2 * 2 ^ (left - 1).toNat:=
 have e:left=((left - 1).toNat:Int)+1:=(Int.sub_add_cancel left 1).symm.trans (ah (·+1) (sp (mf h)).symm)
 (ah (λ z:Int=>(2:Int) ^ z.toNat) e).trans ((Int.pow_succ 2 _).trans (Int.mul_comm _ _))
theorem mZ.twice{lo lo' size code left:Int}{L:Nat}(E:mZ lo size code left L)(hl:1<=left)(hs:size < 32768)(h0:lo'<=size * 2):mZ lo' (size * 2) (code * 2) (left - 1) L:=
 have m:(code * 2+size * 2) * 2 ^ (left - 1).toNat=(code+size) * 2 ^ left.toNat:=by rw[MI hl,← Int.mul_assoc,Int.add_mul code]
 ⟨h0,aO (dY (eW hs) (by decide)) (by decide),rA E.c0 (by decide),mf hl,aO (Int.sub_le_self _ (by decide)) E.l1,m▸E.cap,λ e=>m▸E.TF e⟩
theorem mZ.out{lo size code lE:Int}{L L':Nat}(E:mZ lo size code 0 L)(e:L'=L+1):mZ lo size (lE % 524288) 8 L':=
 ⟨E.s0,E.s1,mw _ (by decide),by decide,by decide,aO (dY (rz (eW (ke lE (by decide:(0:Int) < 524288))) E.s1) (by decide)) (by decide:((524288+65536) * 2 ^ gQ 8:Int)<=150994944),λ z=>nomatch e.symm.trans z⟩
theorem mZ.full{lo size code:Int}{L:Nat}(E:mZ lo size code 0 L)(hp:1<=size):code < 268435456/\(L=0->code < 134217728):=
 have z:=E.shift (Int.lt_add_of_pos_right code hp)
 have e:code * 2 ^ gQ 0=code:=rB code
 ⟨e▸z.1,λ h=>e▸z.2 h⟩
theorem YP{a:Int}(h0:0<=a)(h1:a<=150994944):jF a 2:=Ml (by omega) (by decide)
theorem Z6{size:Int}{n:Nat}(h:32768<=size * 2 ^ n)(q:size < 32768):∃m,n=m+1/\32768<=size * 2 * 2 ^ m:=by
 cases n with
 |zero=>exact bt (gB (rB size▸h:32768<=size) q) (Int.lt_irrefl _)
 |succ m=>exact⟨m,rfl,by rw[Int.pow_succ,Int.mul_comm (2 ^ m) 2,← Int.mul_assoc] at h; exact h⟩
def uW(size code left:Int)(bs:ae bZ):St:=⟨[.own 1],encM size code left bs⟩
inductive J4(B n:Nat)(σ:St):Prop
 |mk (size code left:Int) (bs:ae bZ) (Sn:σ=uW size code left bs) (E:mZ 1 size code left bs.length) (l:1<=left) (hn:32768<=size * 2 ^ n) (hb:bs.length+n<=B)
inductive Os(B:Nat)(r:Fl×St):Prop
 |mk (size code left:Int) (bs:ae bZ) (hr:r=(.d8,uW size code left bs)) (E:pf size code left bs) (hb:bs.length<=B)
def adx(P:cC)(size code left:Int)(bs:ae bZ)(K:Sum St (Fl×St)->Prop):Prop:=
 aX (decide (size < 32768)) (jF size 2/\jF code 2/\aX (left - 1==0)
   (WC P 550 [.own 1] (encM (size * 2) (code * 2) (left - 1) bs) λ aa m=>(M1 (ct:=cm) (eZ 0 p0) 15 p0 (ym 8 p0) p0:SX P cm).run ⟨[.own 1],m⟩ λ f σ=>sd f σ (λ σ=>K (.inl σ)) λ f σ=>K (.inr (f,σ)))
   (K (.inl (uW (size * 2) (code * 2) (left - 1) bs)))) (K (.inr (.d8,uW size code left bs)))
theorem FN{d B:Nat}(hB:B < 90000)(n:Nat)(σ:St)(h:J4 B n σ):gY (uI (iU (PQ W X hX (d+2))).run (iT (PQ W X hX (d+2))).run σ) (WR (J4 B) (Os B) n):=
 J4.casesOn (motive:=λ aa=>gY (uI (iU (PQ W X hX (d+2))).run (iT (PQ W X hX (d+2))).run σ) (WR (J4 B) (Os B) n)) h λ size code left bs Sn E l hn hb=>Sn▸
  .eqv (R':=adx (PQ W X hX (d+2)) size code left bs) (λ K=>by kernel_rfl)
   (.TE (λ q=>(Z6 hn q).elim λ m z=>
     have hb:bs.length+m < B:=Nat.lt_of_succ_le (aG (aU (ah (bs.length+·) z.1.symm)) hb)
     have lm:m < n:=z.1▸jo m
     have s0:0<=size:=aO (by decide) E.s0
     have s2:1<=size * 2:=aO E.s0 (aO (dX (rB _).symm) (fE (by decide) s0))
     have E':=E.twice (lo':=1) l q s2
     .and (YP s0 (aO E.s1 (by decide))) (.and (YP E.c0 (E.code s0)) (.br (λ q2=>
       have e0:left - 1=0:=a4.mp q2
       have E0:mZ 1 (size * 2) (code * 2) 0 bs.length:=e0▸E'
       have fl:=E0.full s2
       .yF (Au (d:=d) E'.c0 fl.1 fl.2 (aT (bq ..) (b_ hb (b_ hB (by decide))))) λ v m' j=>j.u (G:=λ aa m'=>gY (λ K=>(M1 (ct:=cm) (eZ 0 p0) 15 p0 (ym 8 p0) p0:SX (PQ W X hX (d+2)) cm).run ⟨[.own 1],m'⟩ λ f σ=>sd f σ (λ σ=>K (.inl σ)) λ f σ=>K (.inr (f,σ))) (WR (J4 B) (Os B) n)) λ qX hl=>
        .eqv (R':=λ K=>K (.inl (uW (size * 2) (code * 2 % 524288) 8 qX))) (λ K=>by kernel_rfl) (.ret ⟨m,lm,size * 2,_,8,qX,rfl,E0.out hl,by decide,z.2,hl▸Nat.succ_add ..▸hb⟩))
      λ q2=> .ret ⟨m,lm,size * 2,code * 2,left - 1,bs,rfl,E',Int.le_of_sub_nonneg (ja (H4.mpr ⟨mf l,λ e=>by rw[← e] at q2; cases q2⟩)),z.2,eX hb⟩)))
    λ q=> .ret ⟨size,code,left,bs,rfl,⟨E.turn (gX.mp q) E.s1 E.c0 (dT _),l⟩,aG (bq ..) hb⟩)
inductive zE(n L:Nat)(M:Int->Int->Int->ae bZ->ae Int->ae Int->ae AO)(v:AV)(m:ae AO):Prop
 |mk (size code left:Int) (bs:ae bZ) (ss ns:ae Int) (hv:v= .none) (hm:m=M size code left bs ss ns) (E:pf size code left bs) (l:bs.length<=L+15) (B:kt n ss ns)
theorem zE.v{n L:Nat}{M:Int->Int->Int->ae bZ->ae Int->ae Int->ae AO}{v:AV}{m:ae AO}(h:zE n L M v m):v= .none:=zE.casesOn (motive:=λ aa=>v= .none) h λ aa aa aa aa aa aa hv aa aa aa aa=>hv
inductive Oq(L:Nat)(M:Int->Int->Int->ae bZ->ae AO)(v:AV)(m:ae AO):Prop
 |mk (size code left:Int) (bs:ae bZ) (hv:v= .none) (hm:m=M size code left bs) (E:pf size code left bs) (l:bs.length<=L+15)
theorem Rv{d:Nat}{size code left:Int}{bs:ae bZ}(E:mZ 1 size code left bs.length)(l1:1<=left)(hb:bs.length < 20000):fm (PQ W X hX (d+3)) 543 [.own 1] (encM size code left bs) (Oq bs.length encM):=
 fm.go (P:=PQ W X hX (d+2)) rR qY rfl rfl (R:=λ K=>∃N,lZ (iU (PQ W X hX (d+2))).run (iT (PQ W X hX (d+2))).run N (uW size code left bs) (pI (lK (ct:=cm)) (iE λ v m=>K (v,m)))) (λ K=>by kernel_rfl)
  (.loop (gY.while (FN (B:=bs.length+15) (b_ (rC hb 15) (by decide))) 15 _ ⟨size,code,left,bs,rfl,E,l1,dY E.s0 (by decide:(0:Int)<=2 ^ 15),cF _⟩) λ r j=>Os.casesOn (motive:=λ aa=>gY (λ K=>pI (lK (P:=PQ W X hX (d+2)) (ct:=cm)) (iE λ v m=>K (v,m)) r.1 r.2) λ a=>Oq bs.length encM a.1 a.2) j λ size code left qX hr E l=>
   hr▸gY.ret (α:=AV×ae AO) (a:=(AV.none,encM size code left qX)) (Oq.mk size code left qX rfl rfl E l))
noncomputable def pH(size code left:Int)(bs:ae bZ)(ss ns:ae Int):ae AO:=[.ns [13,14,15,16] [.int size, .int code, .int left, .own 2], .inst 567 0, .ba bs, .ns [0,1] [.own 5, .own 6], .inst 245 3, .il ss, .il ns]
def Zg(P:cC)(i bit less:Int)(m:ae AO)(K:AV×ae AO->Prop):Prop:=(Dr (DO (eZ 0 p0) 36 p0 qZ p0) p0:SX P g5).run ⟨[.own 1, .own 4, .int i, .int bit, .int less],m⟩ (iE λ v m=>K (v,m))
def MK(P:cC)(f:au)(i bit less:Int)(m:ae AO)(K:AV×ae AO->Prop):Prop:=WC P f [.own 4, .int i] m λ aa m=>Zg P i bit less m K
section
variable{d n:Nat}{size code left:Int}{bs:ae bZ}{ss ns:ae Int}{i bit less:Int}
theorem vC{f:au}(hc:fm (PQ W X hX (d+3)) f [.own 1, .int i] (zO ss ns) (Bx n zO))(E:mZ 1 size code left bs.length)(l:1<=left)(hb:bs.length < 20000):gY (MK (PQ W X hX (d+3)) f i bit less (pH size code left bs ss ns)) λ a=>zE n bs.length pH a.1 a.2:=
 .yF (fm.use (qV:=[.own 4, .int i]) (M:=pH size code left bs ss ns) (I:=Bx n (pH size code left bs)) [3,4,5,6] hc rfl rfl rfl rfl λ v m j=>j.u (G:=λ v m=>Bx n (pH size code left bs) (ew (eU [3,4,5,6] 7) v) (upd (eU [3,4,5,6] 7) [3,4,5,6] m (pH size code left bs ss ns))) λ ss ns B=>⟨ss,ns,rfl,rfl,B⟩) λ v m j=>j.u (G:=λ aa m=>gY (Zg (PQ W X hX (d+3)) i bit less m) λ a=>zE n bs.length pH a.1 a.2) λ ss ns B=>
  .eqv (R':=λ K=>WC (PQ W X hX (d+3)) 543 [.own 1] (pH size code left bs ss ns) λ aa m=>K (.none,m)) (λ K=>by kernel_rfl)
   (.yF (fm.use (qV:=[.own 1]) (M:=pH size code left bs ss ns) (I:=zE n bs.length pH) [0,1,2] (Rv (d:=d) E l hb) rfl rfl rfl rfl λ v m j=>Oq.casesOn j λ s c l qX hv hm E h=>⟨s,c,l,qX,ss,ns,ah (ew _) hv,ah (upd _ _ · _) hm,E,h,B⟩) λ v m j=> .ret (j.v▸j))
def putN(P:cC)(i bit size code left:Int)(bs:ae bZ)(ss ns:ae Int)(less:Int)(K:AV×ae AO->Prop):Prop:=aX (bit==intAt ns i.toNat)
 (aX (decide (size - less>=32768)) (K (.none,pH (size - less) code left bs ss ns)) (aX (decide (size - less < less)) (MK P 256 i bit less (pH less (code+(size - less)) left bs ss ns) K) (MK P 256 i bit less (pH (size - less) code left bs ss ns) K)))
 (aX (decide (size - less>=less)) (MK P 263 i bit less (pH less (code+(size - less)) left bs ss ns) K) (MK P 263 i bit less (pH (size - less) code left bs ss ns) K))
theorem QB(E:pf size code left bs)(hb:bs.length < 20000)(p:N_ n ss ns i)(l0:1<=less)(l1:less<=23314):gY (putN (PQ W X hX (d+3)) i bit size code left bs ss ns less) λ a=>zE n bs.length pH a.1 a.2:=
 have s0:=E.b.s0; have s1:=E.b.s1
 have n1:1<=size - less:=by omega
 have n2:size - less<=65536:=by omega
 have EA:mZ 1 less (code+(size - less)) left bs.length:=E.b.turn l0 (aO l1 (by decide)) (Int.add_nonneg E.b.c0 (aO (by decide) n1)) (dX (by rw[Int.add_assoc,Int.sub_add_cancel]))
 have EB {lo:Int} (h:lo<=size - less):mZ lo (size - less) code left bs.length:=E.b.turn h n2 E.b.c0 (Int.add_le_add_left (Int.sub_le_self _ (aO (by decide) l0)) _)
 .br (λ aa=> .TE (λ q=> .ret ⟨size - less,code,left,bs,ss,ns,rfl,rfl,⟨EB q,E.l⟩,bq ..,p.B⟩) λ aa=> .TE (λ aa=>vC (Mj (d:=d+1) p) EA E.l hb) λ aa=>vC (Mj (d:=d+1) p) (EB n1) E.l hb)
  λ aa=> .TE (λ aa=>vC (L8 (d:=d+1) p) EA E.l hb) λ aa=>vC (L8 (d:=d+1) p) (EB n1) E.l hb
theorem Zh(E:pf size code left bs)(hb:bs.length < 20000)(B:kt n ss ns)(h0:0<=i)(h1:i < n)(hn:n < 1000):fm (PQ W X hX (d+4)) 536 [.own 1, .own 4, .int i, .int bit] (pH size code left bs ss ns) (zE n bs.length pH):=
 have p:=B.p h0 h1 hn
 fm.go (P:=PQ W X hX (d+3)) tC sA rfl rfl (R:=λ K=>need (cM i ss.length) (need (cM (intAt ss i.toNat) 114) (need (cM 0 (w8 ss i).length) (need (cM i ns.length) (putN (PQ W X hX (d+3)) i bit size code left bs ss ns (intAt (w8 ss i) (gQ 0)) K))))) (λ K=>by kernel_rfl) (.nd p.b (.nd p.s (.nd (p.r.ix (by decide) (by decide)) (.nd p.c (QB E hb p p.r.l0 p.r.l1)))))
end
end
section
variable{prog:aK}{w:bw}{W:WK prog w}{X:BM->Prop}{hX:∀G G',dG G G'->X G->X G'}
theorem pf.start:pf 65536 0 11 []:=⟨⟨by decide,by decide,by decide,by decide,by decide,by decide,λ aa=>by decide⟩,by decide⟩
theorem KX{d:Nat}:fm (PQ W X hX (d+2)) 529 [.own 1] [.ns [] [], .inst 567 0] λ v m=>v= .none/\m=encM 65536 0 11 []:=
 fm.go (P:=PQ W X hX (d+1)) qT pY rfl rfl (R:=λ K=>jF 2 32768/\K (.none,encM 65536 0 11 [])) (λ K=>by kernel_rfl) (.and (Ml (by decide) (by decide)) (.ret ⟨rfl,rfl⟩))
inductive Oa(code size:Int)(M:Int->ae AO)(v:AV)(m:ae AO):Prop
 |mk (c:Int) (hv:v= .none) (hm:m=M c) (h0:0<=c) (h1:c < code+size)
theorem Oa.u{code size:Int}{M:Int->ae AO}{v:AV}{m:ae AO}{G:AV->ae AO->Prop}(h:Oa code size M v m)(k:∀c,0<=c->c < code+size->G .none (M c)):G v m:=Oa.casesOn (motive:=λ aa=>G v m) h λ c hv hm h0 h1=>hv▸hm▸k c h0 h1
def abo(size code left top:Int)(bs:ae bZ)(K:AV×ae AO->Prop):Prop:=
 jF 2 32768/\((2 * 32768:Int)≠0/\Int.natAbs (2 * 32768) < 1073741824)/\jF 2 32768/\jF top (2 * 32768)/\aX (decide (top * (2 * 32768) < code)) (K (.none,encM size (top * (2 * 32768)+32768) left bs)) (K (.none,encM size (top * (2 * 32768)) left bs))
theorem O1{d:Nat}{size code left:Int}{bs:ae bZ}(h0:32768<=size)(h1:size<=65536)(h2:0<=code)(h3:code<=1000000000):
  fm (PQ W X hX (d+2)) 557 [.own 1] (encM size code left bs) (Oa code size (encM size · left bs)):=
 have z:(code+size - 1).fdiv (2 * 32768)=(code+size - 1) / 65536:=i9 _ (by decide)
 have t:0<=(code+size - 1) / 65536/\(code+size - 1) / 65536 < 100000/\(code+size - 1) / 65536 * (2 * 32768) < code+size/\code - 32768<=(code+size - 1) / 65536 * (2 * 32768):=by omega
 fm.go (P:=PQ W X hX (d+1)) oM n7 rfl rfl (R:=abo size code left ((code+size - 1).fdiv (2 * 32768)) bs) (λ K=>by kernel_rfl)
  (z▸ .and (Ml (by decide) (by decide)) (.and ⟨by decide,by decide⟩ (.and (Ml (by decide) (by decide)) (.and (FZ (pO (aO (by decide) t.1) (dr t.2.1 (by decide))))
   (.TE (λ q=> .ret ⟨_,rfl,rfl,by omega,by omega⟩) λ q=> .ret ⟨_,rfl,rfl,rA t.1 (by decide),t.2.2.1⟩)))))
theorem bits_le{a b:Int}(h0:0<=a)(h:a < 268435456)(hb:b<=11):(Builtin.Int.intBits a:Int)+b<=2 ^ 27:=
 aO (rz (pL.mpr (pO (aO (by decide) h0) (dr h (by decide)))) hb) (by decide)
inductive Oi(size code left:Int)(n:Nat)(σ:St):Prop
 |mk (bs:ae bZ) (Sn:σ=uW size code left bs) (e:n=bs.length) (h:bs.length < 100000)
inductive Tk(size code left:Int)(r:Fl×St):Prop
 |mk (bs:ae bZ) (hr:r=(.d8,uW size code left bs)) (h:bs.length < 100000)
theorem MH{d:Nat}{size code left:Int}(n:Nat)(σ:St)(h:Oi size code left n σ):gY (uI (f7 (PQ W X hX d)).run (f6 (PQ W X hX d)).run σ) (WR (Oi size code left) (Tk size code left) n):=
 Oi.casesOn (motive:=λ aa=>gY (uI (f7 (PQ W X hX d)).run (f6 (PQ W X hX d)).run σ) (WR (Oi size code left) (Tk size code left) n)) h λ bs Sn e h=>Sn▸
  .eqv (R':=λ K=>aX (bs !=[]) (need ((-1:Int)= -1/\0 < bs.length) (aX (((bs.getLastD 0).toNat:Int)==0) ("bytearray.pop"="bytearray.pop"/\need (0 < bs.length/\bs.length < 1000000) (K (.inl (uW size code left bs.dropLast)))) (K (.inr (.d8,uW size code left bs))))) (K (.inr (.d8,uW size code left bs)))) (λ K=>by kernel_rfl)
   (.br (λ q=>
     have hl:0 < bs.length:=fS.mpr (rO.mp q)
     have hd:bs.dropLast.length < bs.length:=FU▸Nat.sub_lt hl (by decide)
     .nd ⟨rfl,hl⟩ (.br (λ aa=> .and rfl (.nd ⟨hl,b_ h (by decide)⟩ (.ret ⟨bs.dropLast.length,e▸hd,_,rfl,rfl,b_ hd h⟩))) λ aa=> .ret ⟨bs,rfl,h⟩))
    λ aa=> .ret ⟨bs,rfl,h⟩)
def FinE(v:AV)(m:ae AO):Prop:=(∃l,v= .ky l/\l.length < 100000)/\∃(size code left:Int) (bs:ae bZ),m=encM size code left bs
def z7(P:cC)(b:SS P cw)(m:ae AO)(K:AV×ae AO->Prop):Prop:=b.run ⟨[.own 1],m⟩ (iE λ v m=>K (v,m))
def Ue(P:cC):SS P cw:=iH (Ft (NS p0 (iS (DM (eZ 0 p0) 16 p0) qZ) p0) p0) lK
def Pq(P:cC):SS P cw:=iH (M3 (f7 P) (f6 P) p0) (Ue P)
def Po(P:cC):SS P cw:=iH (MZ (eZ 0 p0) 14 p0 .LShift (ym 8 p0) p0) (iH (Dr (DO (eZ 0 p0) 37 p0 qZ p0) p0) (Pq P))
def fin2(P:cC):SS P cw:=iH (MZ (eZ 0 p0) 14 p0 .LShift (DM (eZ 0 p0) 15 p0) p0) (iH (Dr (DO (eZ 0 p0) 37 p0 qZ p0) p0) (Po P))
theorem Pr{d:Nat}{size code left:Int}{bs:ae bZ}(hb:bs.length < 100000):gY (z7 (PQ W X hX d) (Pq (PQ W X hX d)) (encM size code left bs)) λ a=>FinE a.1 a.2:=
 .eqv (R':=λ K=>∃N,lZ (f7 (PQ W X hX d)).run (f6 (PQ W X hX d)).run N (uW size code left bs) (pI (Ue (PQ W X hX d)) (iE λ v m=>K (v,m)))) (λ K=>by kernel_rfl)
  (.loop (gY.while MH bs.length _ ⟨bs,rfl,rfl,hb⟩) λ r j=>Tk.casesOn (motive:=λ aa=>gY (λ K=>pI (Ue (PQ W X hX d)) (iE λ v m=>K (v,m)) r.1 r.2) λ a=>FinE a.1 a.2) j λ qX hr h=>hr▸
   .eqv (R':=λ K=>need (qX.length < 1000000) (K (.ky qX,encM size code left qX))) (λ K=>by kernel_rfl) (.nd (b_ h (by decide)) (.ret ⟨⟨_,rfl,h⟩,_,_,_,_,rfl⟩)))
theorem Pp{d:Nat}{size code left:Int}{bs:ae bZ}(h0:0<=code)(h1:code < 524288)(hb:bs.length < 50000):gY (z7 (PQ W X hX (d+2)) (Po (PQ W X hX (d+2))) (encM size code left bs)) λ a=>FinE a.1 a.2:=
 have h2:code * 2 ^ gQ 8 < 134217728:=yn h1 (by decide:(0:Int) < 2 ^ gQ 8)
 .eqv (R':=λ K=>((0:Int)<=8/\(Builtin.Int.intBits code:Int)+8<=2 ^ 27)/\WC (PQ W X hX (d+2)) 550 [.own 1] (encM size (code * 2 ^ gQ 8) left bs) λ aa m=>z7 (PQ W X hX (d+2)) (Pq (PQ W X hX (d+2))) m K) (λ K=>by kernel_rfl)
  (.and ⟨by decide,bits_le h0 (dr h1 (by decide)) (by decide)⟩ (.yF (Au (d:=d) (rA h0 (by decide)) (dr h2 (by decide)) (λ aa=>h2) (b_ hb (by decide))) λ v m j=>j.u (G:=λ aa m=>gY (z7 (PQ W X hX (d+2)) (Pq (PQ W X hX (d+2))) m) λ a=>FinE a.1 a.2) λ qX hl=>
   Pr (hl▸b_ (rC hb 1) (by decide))))
theorem Pn{d:Nat}{size code left c:Int}{bs:ae bZ}(E:pf size code left bs)(h0:0<=c)(h1:c < code+size)(hb:bs.length < 20000):gY (z7 (PQ W X hX (d+2)) (fin2 (PQ W X hX (d+2))) (encM size c left bs)) λ a=>FinE a.1 a.2:=
 have h2:=E.b.shift h1
 have cb:c < 268435456:=gB (aO (dX (rB c).symm) (fE (xA (by decide):(0:Int) < 2 ^ left.toNat) h0)) h2.1
 .eqv (R':=λ K=>(0<=left/\(Builtin.Int.intBits c:Int)+left<=2 ^ 27)/\WC (PQ W X hX (d+2)) 550 [.own 1] (encM size (c * 2 ^ left.toNat) left bs) λ aa m=>z7 (PQ W X hX (d+2)) (Po (PQ W X hX (d+2))) m K) (λ K=>by kernel_rfl)
  (.and ⟨E.b.l0,bits_le h0 cb E.b.l1⟩ (.yF (Au (d:=d) (rA h0 (Int.pow_nonneg (by decide))) h2.1 h2.2 (b_ hb (by decide))) λ v m j=>j.u (G:=λ aa m=>gY (z7 (PQ W X hX (d+2)) (Po (PQ W X hX (d+2))) m) λ a=>FinE a.1 a.2) λ qX hl=>
   Pp (d:=d) (mw _ (by decide)) (ke _ (by decide)) (hl▸b_ (rC hb 1) (by decide))))
theorem K7{d:Nat}{size code left:Int}{bs:ae bZ}(E:pf size code left bs)(hb:bs.length < 20000):fm (PQ W X hX (d+4)) 564 [.own 1] (encM size code left bs) FinE:=
 fm.go (P:=PQ W X hX (d+3)) qU pZ rfl rfl (R:=λ K=>WC (PQ W X hX (d+3)) 557 [.own 1] (encM size code left bs) λ aa m=>z7 (PQ W X hX (d+3)) (fin2 (PQ W X hX (d+3))) m K) (λ K=>by kernel_rfl)
  (.yF (O1 (d:=d+1) E.b.s0 E.b.s1 E.b.c0 (aO (E.b.code (aO (by decide) E.b.s0)) (by decide))) λ v m j=>j.u (G:=λ aa m=>gY (z7 (PQ W X hX (d+3)) (fin2 (PQ W X hX (d+3))) m) λ a=>FinE a.1 a.2) λ c h0 h1=>Pn (d:=d+1) E h0 h1 hb)
end
theorem qa:∀{m:ae AO} {i:Nat} {o:AO},bM m i=af o->i < m.length
 |[],_,_=>λ h=>cu h
 |_::_,0,_=>λ aa=>py _
 |_::r,_+1,_=>λ h=>ge (qa (m:=r) h)
theorem mv:∀{m:ae AO} {i:Nat} {o:AO},bM m i=af o->bz m i o=m
 |[],_,_=>λ h=>cu h
 |v::r,0,o=>λ h=>ah (·::r) (am h).symm
 |v::r,i+1,o=>λ h=>ah (v::·) (mv (m:=r) h)
theorem zq{o:TO}:∀{t:ae TO},gU (t++[o]) t.length=af o
 |[]=>rfl
 |_::l=>zq (t:=l)
theorem r7{m:ae AO}{i:Nat}{o x:AO}(h:bM m i=af x):bM (bz m i o) i=af o:=iV (qa h)
def yd:ae TO->Nat->Nat->aC
 |[],_,_=>true
 |_::r,0,q=>noQ r q
 |o::r,i+1,q=>Qj (ml o) q&&yd r i q
where
 Qj (o:aq Nat) (q:Nat):aC:=match o with
  |some p=>!a_ p q
  |none=>true
 noQ:ae TO->Nat->aC
 |[],_=>true
 |o::r,q=>Qj (ml o) q&&noQ r q
theorem Hf{o:aq Nat}{q:Nat}(h:yd.Qj o q=true):o≠af q:=λ e=>ay ((ah (!·) (uM q)).symm.trans (e▸h:yd.Qj (af q) q=true))
theorem Mr:∀{t:ae TO} {q:Nat},yd.noQ t q=true->∀i o,gU t i=af o->ml o≠af q
 |[],_=>λ aa aa aa e=>cu e
 |x::r,q=>λ h i o=>match i with
  |0=>λ e=>am e▸Hf (aF h).1
  |i+1=>Mr (aF h).2 i o
theorem Ha:∀{t:ae TO} {k q:Nat},yd t k q=true->∀i o,i≠k->gU t i=af o->ml o≠af q
 |[],_,_=>λ aa aa aa aa e=>cu e
 |x::r,0,q=>λ h i o n=>match i with
  |0=>bt rfl n
  |i+1=>Mr h i o
 |x::r,k+1,q=>λ h i o n=>match i with
  |0=>λ e=>am e▸Hf (aF h).1
  |i+1=>Ha (aF h).2 i o λ e=>n (ah rE e)
theorem Ks{t:ae TO}{i q:Nat}{o:TO}(h:gU t i=af o)(hb:wG o=false)(hq:gU t q=af .ba):i≠q:=λ e=>ay ((ah wG (am (h.symm.trans (e▸hq)))).symm.trans hb)
theorem GM.two{t:ae TO}{m:ae AO}(g:GM t m){i q:Nat}{o o₁:TO}{ma:AO}{bs:ae bZ}(h:gU t i=af o)(hb:wG o=false)(hq:gU t q=af .ba)(hl:yd t i q=true)
  (h1:GO (bz (bz m i ma) q (.ba bs)) o₁ ma) (he:∀p,ml o₁=af p->p=q):GM (q5 t i o₁) (bz (bz m i ma) q (.ba bs)):=
 have YS:=Ks h hb hq
 have same {j:Nat} (a:j≠i) (b:j≠q):bM (bz (bz m i ma) q (.ba bs)) j=bM m j:=(dV b).trans (dV a)
 ⟨(s8 ..).trans (g.len.trans ((fJ ..).trans (fJ ..)).symm),
  λ j x hj=>o_ hj (λ z y=>z.symm▸y.symm▸⟨ma,(dV YS).trans (iV (g.len▸qj h)),h1⟩) λ n hj=>(d5 (j=q)).elim
   (λ y=>⟨.ba bs,y.symm▸iV ((fJ ..).symm▸g.len▸qj hq),(am (hq.symm.trans (y▸hj)):TO.ba=x)▸⟨bs,rfl⟩⟩)
   λ nq=>(g.get j x hj).imp λ o'=> .imp (same n nq).trans (GO.frame · λ p hp=>same (g.nq h hb j x p hj hp) λ e=>Ha hl j x n hj (e▸hp)),
  λ j x p hj hp=>o_ hj (λ aa y=>(he p (y▸hp)).symm▸(lB YS.symm).trans hq) λ n hj=>(lB (g.nq h hb j x p hj hp)).trans (g.enc j x p hj hp)⟩
theorem GM.T1{t:ae TO}{m:ae AO}(g:GM t m){i q L:Nat}{o:TO}{ma:AO}(h:gU t i=af o)(hb:wG o=false)(hq:gU t q=af .ba)(h1:GO m (.enc q L) ma):GM (q5 t i (.enc q L)) (bz m i ma):=
 have YS:=(Ks h hb hq).symm
 ⟨(s8 ..).trans (g.len.trans (fJ ..).symm),
  λ j x hj=>o_ hj (λ z y=>z.symm▸y.symm▸⟨ma,iV (g.len▸qj h),h1.frame λ p hp=>dV ((am hp:q=p)▸YS)⟩)
   λ n hj=>(g.get j x hj).imp λ o'=> .imp (dV n).trans (GO.frame · λ p hp=>dV (g.nq h hb j x p hj hp)),
  λ j x p hj hp=>o_ hj (λ aa y=>(am (y▸hp:ml (.enc q L)=af p):q=p)▸(lB YS).trans hq) λ n hj=>(lB (g.nq h hb j x p hj hp)).trans (g.enc j x p hj hp)⟩
noncomputable def acL(o:TO):aq {c:Nat×Nat // o= .enc c.1 c.2}:=match o with
 | .enc q L=>af ⟨(q,L),rfl⟩
 |_=>none
def VY(C:au)(t:TV)(tm:ae TO):aq {c:Nat×Nat // t= .ex (.own c.1)/\gU tm c.1=af (.inst C c.2)}:=
 ob (nR t) λ p=>jN (gU tm p.1) λ o ho=>ob (Hg o) λ c=>dE (jn c.1.1 C) λ h=>af ⟨(p.1,c.1.2),p.2,ho.trans (ah af (h▸c.2))⟩
structure BA(tm:ae TO)(e je q L:Nat):Prop where
 i:gU tm e=af (.inst 567 je)
 o:gU tm je=af (.enc q L)
structure WH(m:ae AO)(e je q:Nat)(size code left:Int)(bs:ae bZ):Prop where
 i:bM m e=af (.inst 567 je)
 o:bM m je=af (.ns [13,14,15,16] [.int size, .int code, .int left, .own q])
 b:bM m q=af (.ba bs)
 E:pf size code left bs
def ZO(t:TV)(tm:ae TO):aq {c:Nat×Nat×Nat×Nat // t= .ex (.own c.1)/\BA tm c.1 c.2.1 c.2.2.1 c.2.2.2}:=
 ob (VY 567 t tm) λ e=>jN (gU tm e.1.2) λ o ho=>ob (acL o) λ c=>af ⟨(e.1.1,e.1.2,c.1.1,c.1.2),e.2.1,e.2.2,ho.trans (ah af c.2)⟩
theorem GM.inst{tm:ae TO}{m:ae AO}(gm:GM tm m){i j:Nat}{C:au}(h:gU tm i=af (.inst C j)):bM m i=af (.inst C j):=(gm.at h).elim λ aa z=>z.1.trans (ah af z.2)
theorem BA.u{tm:ae TO}{m:ae AO}{e je q L:Nat}(A:BA tm e je q L)(gm:GM tm m){Q:Prop}(k:∀size code left bs,WH m e je q size code left bs->bs.length<=L->Q):Q:=
 (gm.at A.o).elim λ o z=>aD z.2 λ size y=>y.elim λ code y=>y.elim λ left y=>y.elim λ bs y=>k size code left bs ⟨gm.inst A.i,z.1.trans (ah af y.1),y.2.1,y.2.2.1⟩ y.2.2.2
def Wn(lo hi:Int)(n:Nat)(o:TO):Prop:=∀m x,GO m o x->∃r,x= .il r/\r.length=n/\∀y∈r,lo<=y/\y<=hi
theorem Wn.nb{lo hi:Int}{n:Nat}{o:TO}(h:Wn lo hi n o):wG o=false:=by
 cases e:wG o
 ·rfl
 ·exact(h [] (.ba []) (GY e▸⟨[],rfl⟩)).elim λ r e=>AO.noConfusion e.1
def YZ(lo hi:Int)(o:TO):aq {n:Nat // Wn lo hi n o}:=
 ob (Vb o) λ c=>dE (p:=lo<=c.1.2.1/\c.1.2.2<=hi) inferInstance λ h=>af ⟨c.1.1,λ m x g=>(c.2.go m x g).imp λ r=> .imp_right<| .imp_right λ a y hy=>(a y hy).imp (aO h.1) (aO · h.2)⟩
def UG(o:TO):aq {c:Nat×Nat // o= .ns [0,1] [.ex (.own c.1), .ex (.own c.2)]}:=match o with
 | .ns ks vs=>dE (nV ks [0,1]) λ h=>ob (Rm vs) λ c=>ob (nR c.1.1) λ s=>ob (nR c.1.2) λ n=>af ⟨(s.1,n.1),(ah (TO.ns · vs) h).trans (ah (TO.ns [0,1]) (c.2.trans (congr (ah pa s.2) (ah (λ y=>[y]) n.2))))⟩
 |_=>none
structure F2(tm:ae TO)(f jb s n k:Nat):Prop where
 i:gU tm f=af (.inst 245 jb)
 o:gU tm jb=af (.ns [0,1] [.ex (.own s), .ex (.own n)])
 s:∃o,gU tm s=af o/\Wn 0 113 k o
 n:∃o,gU tm n=af o/\Wn 0 1 k o
structure WF(m:ae AO)(f jb s n k:Nat)(ss ns:ae Int):Prop where
 i:bM m f=af (.inst 245 jb)
 o:bM m jb=af (.ns [0,1] [.own s, .own n])
 s:bM m s=af (.il ss)
 n:bM m n=af (.il ns)
 B:kt k ss ns
def add(t:TV)(tm:ae TO):aq {c:Nat×Nat×Nat×Nat×Nat // t= .ex (.own c.1)/\F2 tm c.1 c.2.1 c.2.2.1 c.2.2.2.1 c.2.2.2.2}:=
 ob (VY 245 t tm) λ f=>jN (gU tm f.1.2) λ o ho=>ob (UG o) λ z=>jN (gU tm z.1.1) λ os hs=>jN (gU tm z.1.2) λ on hn=>ob (YZ 0 113 os) λ ks=>ob (YZ 0 1 on) λ kn=>dE (jn kn.1 ks.1) λ h=>
  af ⟨(f.1.1,f.1.2,z.1.1,z.1.2,ks.1),f.2.1,f.2.2,ho.trans (ah af z.2),⟨os,hs,ks.2⟩,⟨on,hn,h▸kn.2⟩⟩
theorem GM.cM{tm:ae TO}{m:ae AO}(gm:GM tm m){i n:Nat}{lo hi:Int}(h:∃o,gU tm i=af o/\Wn lo hi n o){Q:Prop}(k:∀r,bM m i=af (.il r)->r.length=n->(∀y∈r,lo<=y/\y<=hi)->Q):Q:=
 h.elim λ o h=>(gm.at h.1).elim λ x z=>(h.2 m x z.2).elim λ r y=>k r (z.1.trans (ah af y.1)) y.2.1 y.2.2
theorem TC{x:Int}(h:0<=x/\x<=1):x=0\/x=1:=(th h.2).imp (λ l=>e7 (H1 l) h.1) id
theorem F2.u{tm:ae TO}{m:ae AO}{f jb s n k:Nat}(A:F2 tm f jb s n k)(gm:GM tm m){Q:Prop}(kk:∀ss ns,WF m f jb s n k ss ns->Q):Q:=
 gm.cM A.s λ ss h1 l1 b1=>gm.cM A.n λ ns h2 l2 b2=>(gm.at A.o).elim λ o z=>aD z.2 λ us y=>(dH.u2 y.2 (Q:=λ us=>o= .ns [0,1] us->o= .ns [0,1] [.own s, .own n]) λ u v (e1:u= .own s) (e2:v= .own n) e=>e1▸e2▸e) y.1|>λ e=>
  kk ss ns ⟨gm.inst A.i,z.1.trans (ah af e),h1,h2,l1,l2,λ x hx=>(b1 x hx).imp id Int.lt_add_one_of_le,λ x hx=>TC (b2 x hx)⟩
theorem mM{l:ae Nat}(h:l.Nodup)(i j:Nat){x y:Nat}(hi:l[i]?=af x)(hj:l[j]?=af y)(n:a_ i j=false):x≠y:=λ e=>pM n ((nY (jr hi) h).mp (hi.trans ((ah af e).trans hj.symm)))
def MM(tm:ae TO)(je q L s n k:Nat):ae Out:=[(.ex .none,q5 (q5 (q5 tm je (.enc q (L+15))) s (.Af k 0 113)) n (.Af k 0 1))]
def Zc(ts:ae TV)(tm:ae TO):aq (ae Out):=ob (K_ ts) λ T=>ob (ZO T.1.1 tm) λ e=>ob (add T.1.2.1 tm) λ f=>jN (mh T.1.2.2.1) λ i aa=>ob (tI T.1.2.2.2) λ aa=>
 nB (bB f.1.2.2.2.2 999&&(decide (0<=i.1/\i.2 < (f.1.2.2.2.2:Int))&&(bB e.1.2.2.2 19000&&(yd tm e.1.2.1 e.1.2.2.1&&sY [e.1.2.1,e.1.1,e.1.2.2.1,f.1.2.1,f.1.1,f.1.2.2.1,f.1.2.2.2.1] tm.length))))
  (af (MM tm e.1.2.1 e.1.2.2.1 e.1.2.2.2 f.1.2.2.1 f.1.2.2.2.1 f.1.2.2.2.2))
section
variable{prog:aK}{w:bw}{W:WK prog w}{X:BM->Prop}{hX:∀G G',dG G G'->X G->X G'}
section
variable{m:ae AO}{e je q f jb s n k:Nat}{size code left iv bv:Int}{bs:ae bZ}{ss ns:ae Int}
theorem Vl(A:WH m e je q size code left bs)(B:WF m f jb s n k ss ns)(sel:sY [je,e,q,jb,f,s,n] m.length=true)(hb:bs.length < 20000)(h0:0<=iv)(h1:iv < k)(hn:k < 1000):
  fm (PQ W X hX 4) 536 [.own e, .own f, .int iv, .int bv] m λ v m'=>zE k bs.length (λ size code left bs ss ns=>bz (bz (bz (bz m je (.ns [13,14,15,16] [.int size, .int code, .int left, .own q])) q (.ba bs)) s (.il ss)) n (.il ns)) v m':=
 have N:=(qF sel).1
 fm.at [je,e,q,jb,f,s,n] (Zh (W:=W) (X:=X) (hX:=hX) (d:=0) (i:=iv) (bit:=bv) A.E hb B.B h0 h1 hn) rfl sel rfl (bX A.o<|bX A.i<|bX A.b<|bX B.o<|bX B.i<|bX B.s<|bX B.n<|rfl) λ v m' j=>by
  rcases j with⟨mP,lE,ri,qX,VQ,Bj,rfl,rfl,E',l',B'⟩
  have a1:bz (bz m je (.ns [13,14,15,16] [.int mP, .int lE, .int ri, .own q])) e (.inst 567 je)=bz m je (.ns [13,14,15,16] [.int mP, .int lE, .int ri, .own q]):=mv ((dV (mM N 1 0 rfl rfl rfl)).trans A.i)
  have a2:bz (bz (bz m je (.ns [13,14,15,16] [.int mP, .int lE, .int ri, .own q])) q (.ba qX)) jb (.ns [0,1] [.own s, .own n])=bz (bz m je (.ns [13,14,15,16] [.int mP, .int lE, .int ri, .own q])) q (.ba qX):=mv ((dV (mM N 3 2 rfl rfl rfl)).trans ((dV (mM N 3 0 rfl rfl rfl)).trans B.o))
  have a3:bz (bz (bz m je (.ns [13,14,15,16] [.int mP, .int lE, .int ri, .own q])) q (.ba qX)) f (.inst 245 jb)=bz (bz m je (.ns [13,14,15,16] [.int mP, .int lE, .int ri, .own q])) q (.ba qX):=mv ((dV (mM N 4 2 rfl rfl rfl)).trans ((dV (mM N 4 0 rfl rfl rfl)).trans B.i))
  exact⟨rfl,mP,lE,ri,qX,VQ,Bj,rfl,(bS _).trans ((ah (λ x=>bz (bz (bz (bz (bz x q (.ba qX)) jb (.ns [0,1] [.own s, .own n])) f (.inst 245 jb)) s (.il VQ)) n (.il Bj)) a1).trans
   ((ah (λ x=>bz (bz (bz x f (.inst 245 jb)) s (.il VQ)) n (.il Bj)) a2).trans (ah (λ x=>bz (bz x s (.il VQ)) n (.il Bj)) a3))),E',l',B'⟩
end
theorem Vm{tm:ae TO}{m:ae AO}{e je q L f jb s n k:Nat}{iv bv:Int}(gm:GM tm m)(A:BA tm e je q L)(B:F2 tm f jb s n k)(lo:yd tm je q=true)(sel:sY [je,e,q,jb,f,s,n] tm.length=true)(hL:L<=19000)(h0:0<=iv)(h1:iv < k)(hn:k<=999):
  DW (PQ W X hX 4) 536 [.own e, .own f, .int iv, .int bv] m (MM tm je q L s n k):=
 A.u gm λ size code left bs E lb=>B.u gm λ ss ns B'=>have N:=(qF sel).1
  (Vl (W:=W) (X:=X) (hX:=hX) (bv:=bv) E B' (gm.len▸sel) (aT (aG lb hL) (by decide)) h0 h1 (Nat.lt_succ_of_le hn)).elim λ v z=>z.elim λ m' z=>by
   obtain⟨j,z⟩:=z
   rcases j with⟨mP,lE,ri,qX,VQ,Bj,rfl,rfl,E',l',B1⟩
   have hq:=gm.enc _ _ q A.o rfl
   have t1:=gm.two (o₁:= .enc q (L+15)) (ma:= .ns [13,14,15,16] [.int mP, .int lE, .int ri, .own q]) (bs:=qX) A.o rfl hq lo ⟨mP,lE,ri,qX,rfl,r7 ((dV (mM N 2 0 rfl rfl rfl)).trans E.b),E',aG l' (fF lb 15)⟩ λ p hp=>(am hp).symm
   exact B.s.elim λ os hs=>B.n.elim λ on Sj=>⟨.none,_,⟨_,be.mpr rfl,rfl,GM.set (GM.set t1 (o₁:= .Af k 0 113) (ma:= .il VQ) ((lB (mM N 5 0 rfl rfl rfl)).trans hs.1) hs.2.nb ⟨VQ,rfl,B1.s,λ x hx=>(B1.so x hx).imp id H1⟩ (.inl rfl))
    (o₁:= .Af k 0 1) (ma:= .il Bj) ((lB (mM N 6 5 rfl rfl rfl)).trans ((lB (mM N 6 0 rfl rfl rfl)).trans Sj.1)) Sj.2.nb ⟨Bj,rfl,B1.n,λ x hx=>(B1.no x hx).elim (λ e=>⟨dX e.symm,aO (dX e) (by decide)⟩) λ e=>⟨aO (by decide) (dX e.symm),dX e⟩⟩ (.inl rfl)⟩,z⟩
theorem dH.u4{a b c d:TV}{us:ae AV}{Q:ae AV->Prop}(h:dH [a,b,c,d] us)(k:∀u v w x,GV a u->GV b v->GV c w->GV d x->Q [u,v,w,x]):Q us:=
 h.uc λ u aa g1 h=>h.uc (Q:=λ r=>Q (u::r)) λ v aa g2 h=>h.u2 (Q:=λ r=>Q (u::v::r)) λ w x g3 g4=>k u v w x g1 g2 g3 g4
theorem Qy{ts:ae TV}{tm:ae TO}{outs:ae Out}(h:Zc ts tm=af outs){vs:ae AV}{m:ae AO}(gv:dH ts vs)(gm:GM tm m):DW (PQ W X hX 4) 536 vs m outs:=
 ob.u h λ T aa h=>ob.u h λ e aa h=>ob.u h λ f aa h=>jN.u h λ i hi h=>ob.u h λ b aa h=>nB.u h λ hc h=>
  have c1:=aF hc; have c2:=aF c1.2; have c3:=aF c2.2; have c4:=aF c3.2; have ci:=bg c2.1
  dH.u4 (T.2▸gv:dH [T.1.1,T.1.2.1,T.1.2.2.1,T.1.2.2.2] vs) (Q:=λ vs=>DW (PQ W X hX 4) 536 vs m outs) λ u v x y g1 g2 g3 g4=>(ly g1 e.2.1).symm▸(ly g2 f.2.1).symm▸mh.u hi g3 (Q:=λ x=>DW (PQ W X hX 4) 536 [.own e.1.1, .own f.1.1,x,y] m outs) λ iv i0 i1=>(b.2 y g4).elim λ bv eb=>eb.symm▸
   am h▸Vm gm e.2.2 f.2.2 c4.1 c4.2 (aQ c3.1) (aO ci.1 i0) (gB i1 ci.2) (aQ c1.1)
end
def DD(r:ae Int):Int:=(intAt r 1 * 39373+7).fmod 2147483647
def FG(r:ae Int)(top:Int):Int:=aX (decide (0 < intAt r 0)) ((intAt r 0).fmod top) ((((DD r * DD r).fmod 2147483629).fdiv 32).fmod top)
def gD(r:ae Int)(top:Int):ae Int:=[aX (decide (0 < intAt r 0)) ((intAt r 0).fdiv top) (intAt r 0),aX (decide (0 < intAt r 0)) (intAt r 1) (DD r)]
theorem Ce(a:Int){top:Int}(h:0 < top):0<=a.fmod top/\a.fmod top<=top - 1:=
 (i_ a (eW h)).symm▸⟨mw a (jl h),ja (ke a h)⟩
theorem KN{α:Type}{b:aC}{x y:α}{Q:α->Prop}(h:Q x)(k:Q y):Q (aX b x y):=by
 cases b
 ·exact k
 ·exact h
theorem nk(r:ae Int){top:Int}(h:0 < top):0<=FG r top/\FG r top<=top - 1:=KN (Q:=λ x=>0<=x/\x<=top - 1) (Ce _ h) (Ce _ h)
section
variable{prog:aK}{w:bw}{W:WK prog w}{X:BM->Prop}{hX:∀G G',dG G G'->X G->X G'}{j:aC}{cB:xV}
theorem qv{i:Nat}{e:lg}(h:FT[i]?=af e)(h0:e.dm=0){d:Nat}{vs:ae AV}{m:ae AO}{I:AV->ae AO->Prop}(hl:vs.length=e.xs.length)(r:gY (λ K=>(e.b (PV W X hX (d+1) j cB)).run ⟨fill e.ct.aS vs,m⟩ (iE λ v m=>K (v,m))) λ a=>I a.1 a.2):
  fm (PV W X hX (d+2) j cB) e.f vs m I:=
 have he:=dB h
 (zX W (X:=X) (hX:=hX) (d:=d+1) (j:=j) (cB:=cB) (dA FL (dA FJ he))).elim λ dv z=>
  (h0▸z.1 (λ aa=>none) []:bJ (λ aa=>none) [] (B3 0) dv).u0 (Q:=λ dv=>FnAt (PV W X hX (d+1) j cB) e.ct e.f e.xs dv (e.b (PV W X hX (d+1) j cB)).bA->fm (PV W X hX (d+2) j cB) e.f vs m I)
   (λ h2=>fm.fn (P:=PV W X hX (d+1) j cB) h2 (da:=[]) (λ aa aa=>bJ.nil) (aY.mp (JQ W) e he) (RC he) hl ((bS vs).symm▸r)) z.2
theorem FE{d:Nat}{x y top:Int}(h:0 < top)(h2:top < 1000000):fm (PV W X hX (d+2) j cB) 865 [.own 0, .int top] [.il [x,y]] λ v m=>v= .int (FG [x,y] top)/\m=[.il (gD [x,y] top)]:=by
 refine qv (i:=52) rfl rfl rfl ?_
 conv=>enter [1,K]; whnf
 refine gY.TE (λ q=>?_) λ q=>?_
 ·have q':decide (0 < intAt [x,y] 0)=true:=cz q
  conv=>enter [1,K]; whnf
  refine gY.and (by omega) ?_
  conv=>enter [1,K]; whnf
  refine gY.and ⟨by omega,by omega⟩ ?_
  conv=>enter [1,K]; whnf
  refine gY.ret ⟨?_,?_⟩
  ·unfold FG; rw[q']; rfl
  ·unfold gD; rw[q']; rfl
 ·have q':decide (0 < intAt [x,y] 0)=false:=dj q
  conv=>enter [1,K]; whnf
  refine gY.and (y6 (by decide) (by decide)) ?_
  conv=>enter [1,K]; whnf
  refine gY.and (by decide) ?_
  conv=>enter [1,K]; whnf
  have hm:0<=DD [x,y]/\DD [x,y] < 2147483647:=by
   unfold DD
   rw[i_ _ (by decide)]
   exact⟨mw _ (by decide),ke _ (by decide)⟩
  refine gY.and (show jF (DD [x,y]) (DD [x,y]) from Ml (by omega) (by omega)) ?_
  conv=>enter [1,K]; whnf
  refine gY.and (by decide) ?_
  conv=>enter [1,K]; whnf
  refine gY.and ⟨by decide,by decide⟩ ?_
  conv=>enter [1,K]; whnf
  refine gY.and (by omega) ?_
  conv=>enter [1,K]; whnf
  refine gY.ret ⟨?_,?_⟩
  ·unfold FG; rw[q']; rfl
  ·unfold gD; rw[q']; rfl
def XC(r:ae Int)(top:Int)(s:ae TO):aq (ae Out):=
 aX (decide (top=1)) (af [(.ex (.int 0),s)]) (aX (decide (top=2)) (af [(.ex (.int 0),s),(.ex (.int 1),s)]) (aX (decide (top=3)) (af [(.ex (.int 0),s),(.ex (.int 1),s),(.ex (.int 2),s)])
 (aX (decide (top=4)) (af [(.ex (.int 0),s),(.rg 1 3,s)]) (aX (decide (top=5)) (af [(.nr (FG r top) 0 4,s)]) none))))
theorem Aq{o:Out}{l:ae Out}{P:Out->Prop}(h:P o):∃x,x∈o::l/\P x:=⟨o,aR,h⟩
theorem CW{o:Out}{l:ae Out}{P:Out->Prop}(h:∃x,x∈l/\P x):∃x,x∈o::l/\P x:=h.imp λ aa=> .imp_left (aP _)
theorem NJ{v n:Int}(h:v<=n):v=n\/v<=n - 1:=(th h).symm.imp id ja
theorem KS{p:Prop}[fD p]{α:Type}{x y:aq α}{r:α}{Q:Prop}(h:aX (decide p) x y=af r)(k:p->x=af r->Q)(k':y=af r->Q):Q:=condB h (λ e=>k (bg e)) λ aa=>k'
abbrev DgR(r:ae Int)(top:Int)(s:ae TO)(outs:ae Out):Prop:=(0 < top/\top < 1000000)/\∃o,o∈outs/\GV o.1 (.int (FG r top))/\o.2=s
theorem Pa{r:ae Int}{top:Int}{s:ae TO}{outs:ae Out}(h:XC r top s=af outs):DgR r top s outs:=by
 refine KS h (λ e h=>?_) λ h=>KS h (λ e h=>?_) λ h=>KS h (λ e h=>?_) λ h=>KS h (λ e h=>?_) λ h=>KS h (λ e h=>?_) λ h=>cu h
 all_goals subst e; refine am h▸⟨⟨by decide,by decide⟩,?_⟩
 ·have c:=nk r (top:=1) (by decide)
  exact Aq ⟨ah AV.int (e7 c.2 c.1),rfl⟩
 ·have c:=nk r (top:=2) (by decide)
  exact(NJ c.2).elim (λ e=>CW (Aq ⟨ah AV.int e,rfl⟩)) λ k=>Aq ⟨ah AV.int (e7 k c.1),rfl⟩
 ·have c:=nk r (top:=3) (by decide)
  exact(NJ c.2).elim (λ e=>CW (CW (Aq ⟨ah AV.int e,rfl⟩))) λ k=>(NJ k).elim (λ e=>CW (Aq ⟨ah AV.int e,rfl⟩)) λ k=>Aq ⟨ah AV.int (e7 k c.1),rfl⟩
 ·have c:=nk r (top:=4) (by decide)
  exact(th c.1).elim (λ l=>CW (Aq ⟨⟨_,rfl,H0 l,c.2⟩,rfl⟩)) λ e=>Aq ⟨ah AV.int e.symm,rfl⟩
 ·exact Aq ⟨⟨rfl,nk r (by decide)⟩,rfl⟩
theorem acx{α:Type}:∀{l:ae α},a_ l.length 2=true->∃x y,l=[x,y]
 |[x,y],_=>⟨x,y,rfl⟩
def SG(ts:ae TV)(tm:ae TO):aq (ae Out):=ob (Rm ts) λ T=>ob (nR T.1.1) λ p=>ob (lr T.1.2) λ top=>jN (gU tm p.1) λ o ho=>ob (oIx o) λ r=>bE (a_ r.1.length 2) λ aa=>XC r.1 top.1 (q5 tm p.1 (.ix (gD r.1 top.1)))
theorem Rd{tm:ae TO}{m:ae AO}(gm:GM tm m){p:Nat}{r:ae Int}{top:Int}(hl:a_ r.length 2=true)(ho:gU tm p=af (.ix r)){outs:ae Out}(D:DgR r top (q5 tm p (.ix (gD r top))) outs):DW (PV W X hX 2 j cB) 865 [.own p, .int top] m outs:=
 have m1:bM m p=af (.il r):=(gm.at ho).elim λ aa z=>z.1.trans (ah af z.2)
 have E:fm (PV W X hX 2 j cB) 865 [.own p, .int top] m λ v m'=>v= .int (FG r top)/\m'=bz m p (.il (gD r top)):=(acx hl).elim λ x z=>z.elim λ y e=>by
  subst e
  exact fm.use [p] (FE (W:=W) (X:=X) (hX:=hX) (j:=j) (cB:=cB) (d:=0) D.1.1 D.1.2) rfl (bN.mpr ⟨c6 (gm.len▸qj ho),rfl⟩) rfl (bX m1 rfl) λ v m' k=>⟨ah (ew (eU [p] m.length)) k.1,(ah (upd (eU [p] m.length) [p] · m) k.2).trans (bS _)⟩
 E.elim λ v z=>z.elim λ m' z=>D.2.elim λ o y=>⟨v,m',⟨o,y.1,z.1.1▸y.2.1,y.2.2▸z.1.2▸gm.set (o:= .ix r) ho rfl rfl (.inl rfl)⟩,z.2⟩
theorem MD{ts:ae TV}{tm:ae TO}{outs:ae Out}(h:SG ts tm=af outs){vs:ae AV}{m:ae AO}(gv:dH ts vs)(gm:GM tm m):DW (PV W X hX 2 j cB) 865 vs m outs:=
 ob.u h λ T aa h=>ob.u h λ p aa h=>ob.u h λ top aa h=>jN.u h λ o ho h=>ob.u h λ r aa h=>bE.u h λ hl h=>dH.v2 T.2 gv (Q:=λ vs=>DW (PV W X hX 2 j cB) 865 vs m outs) λ u v g1 g2=>(ly g1 p.2).symm▸(ly g2 top.2).symm▸Rd gm hl (ho.trans (ah af r.2)) (Pa h)
theorem fm.fz{P:cC}{f:au}{dx:ae AV}{mem:ae AO}{I I':AV->ae AO->Prop}(h:fm P f dx mem I)(k:∀v m,I v m->∃r,N1 mem.length v m=af r/\I' r.1 r.2):fm P f dx mem I':=by
 obtain⟨v,m,i,z⟩:=h
 obtain⟨r,e,i'⟩:=k v m i
 exact⟨r.1,r.2,i',WC.fz (z.mono λ v' m' q=>⟨r,q.1.symm▸q.2.symm▸e,rfl,rfl⟩)⟩
noncomputable def Lf{α:Type}:ae α->Nat->aq α
 |a::_,0=>af a
 |_::r,i+1=>Lf r i
 |[],_=>none
theorem tw.at{α:Type}{P:α->AV->Prop}:∀{C:ae α} {cs:ae AV} {i:Nat} {r:α},tw P C cs->Lf C i=af r->P r (fC cs i)/\i < cs.length
 |[],_,_,_=>λ aa e=>cu e
 |_::_,_,0,_=>λ h e=>h.elim λ c h=>h.elim λ t h=>h.1▸⟨am e▸h.2.1,py _⟩
 |_::_,_,i+1,_=>λ h e=>h.elim λ c h=>h.elim λ t h=>h.1▸(tw.at (i:=i) h.2.2 e).imp id ge
theorem tw.eU{α:Type}{P:α->AV->Prop}{f:Nat->Nat}(k:∀r c,P r c->ew f c=c):∀{C:ae α} {cs:ae AV},tw P C cs->eu f cs=cs
 |[],_=>λ h=>(show _=[] from h)▸rfl
 |_::_,_=>λ h=>h.elim λ c h=>h.elim λ t h=>h.1▸(ah (·::eu f t) (k _ c h.2.1)).trans (ah (c::·) (tw.eU k h.2.2))
theorem Ic.eU{α:Type}{P:ae α->ae AV->Prop}{f:Nat->Nat}(k:∀{r c},P r c->eu f c=c)(r:ae α)(v:AV)(h:Ic P r v):ew f v=v:=h.elim λ c h=>h.1▸ah AV.lst (k h.2)
theorem F3.eU{f:Nat->Nat}(r:ae Int)(c:AV)(h:F3 r c):ew f c=c:=h.elim (λ e=>e▸rfl) λ e=>e.1▸rfl
theorem ve.eU{f:Nat->Nat}{R:ae (ae (ae (ae Int)))}{ps:ae AV}(h:ve R ps):eu f ps=ps:=tw.eU (Ic.eU (tw.eU (Ic.eU (tw.eU F3.eU)))) h
theorem m8.eU{f:Nat->Nat}{R:ae (ae (ae (ae Int)))}{g:AV}(h:m8 R g):ew f g=g:=h.elim λ ps h=>h.1▸ah (λ l=>AV.inst 812 [28,29] [.int 4, .lst l]) (ve.eU h.2)
theorem EZ{n:Int}(h:Ah n=true):0<=n/\n < 4611686018427387904:=bg h
theorem Se{d:Nat}{R:ae (ae (ae (ae Int)))}{g:AV}(hg:m8 R g){p x y:Int}(hp:Ah p=true)(hx:Ah x=true)(hy:Ah y=true){L:ae (ae (ae Int))}{C:ae (ae Int)}{r:ae Int}(e1:Lf R p.toNat=af L)(e2:Lf L y.toNat=af C)(e3:Lf C x.toNat=af r):
  fm (PV W X hX (d+2) j cB) 802 [g, .int p, .int x, .int y] [] λ v m=>v= .row r/\m=[]:=by
 obtain⟨ps,rfl,hP⟩:=hg
 obtain⟨⟨ls,a1,hL⟩,b1⟩:=hP.at e1
 obtain⟨⟨cs,a2,hC⟩,b2⟩:=hL.at e2
 obtain⟨hc,b3⟩:=hC.at e3
 have hp:=EZ hp
 have hx:=EZ hx
 have hy:=EZ hy
 refine fm.fz (I:=λ v m=>(v= .row r/\m=[])\/(r=[0,0,0,0]/\v= .own 1/\m=[.lst [.int 0], .il [0,0,0,0]])) ?_ λ v m k=>?_
 ·refine qv (i:=47) rfl rfl rfl ?_
  conv=>enter [1,K]; whnf
  refine gY.nd ⟨hp.1,by omega,hp.2⟩ ?_
  conv=>enter [1,K]; rw[a1]; whnf
  refine gY.nd ⟨hy.1,by omega,hy.2⟩ ?_
  conv=>enter [1,K]; rw[a2]; whnf
  refine gY.nd ⟨hx.1,by omega,hx.2⟩ ?_
  rcases hc with e|⟨e,rfl⟩
  ·conv=>enter [1,K]; rw[e]; whnf
   exact gY.ret (.inl ⟨rfl,rfl⟩)
  ·conv=>enter [1,K]; rw[e]; whnf
   exact gY.ret (.inr ⟨rfl,rfl,rfl⟩)
 ·rcases k with⟨rfl,rfl⟩|⟨rfl,rfl,rfl⟩
  ·exact⟨(.row r,[]),rfl,rfl,rfl⟩
  ·exact⟨(.row [0,0,0,0],[]),rfl,rfl,rfl⟩
def Zb(ts:ae TV)(tm:ae TO):aq (ae Out):=ob (K_ ts) λ T=>ob (tGr T.1.1) λ R=>ob (lr T.1.2.1) λ p=>ob (lr T.1.2.2.1) λ x=>ob (lr T.1.2.2.2) λ y=>bE (Ah p.1&&(Ah x.1&&Ah y.1)) λ aa=>jN (Lf R.1 p.1.toNat) λ L hL=>jN (Lf L y.1.toNat) λ C hC=>jN (Lf C x.1.toNat) λ r hr=>af [(.ex (.row r),tm)]
theorem Uo{tm:ae TO}{m:ae AO}(gm:GM tm m){g:AV}{p x y:Int}{r:ae Int}(D:fm (PV W X hX 2 j cB) 802 [g, .int p, .int x, .int y] [] λ v m=>v= .row r/\m=[])(hg:∀f,ew f g=g):DW (PV W X hX 2 j cB) 802 [g, .int p, .int x, .int y] m [(.ex (.row r),tm)]:=
 have E:fm (PV W X hX 2 j cB) 802 [g, .int p, .int x, .int y] m λ v m'=>v= .row r/\m'=m:=fm.use [] D (ah (λ g=>[g,AV.int p, .int x, .int y]) (hg _).symm) rfl rfl rfl λ v m' k=>⟨ah (ew (eU [] m.length)) k.1,(ah (upd (eU [] m.length) [] · m) k.2).trans (bS _)⟩
 E.elim λ v z=>z.elim λ m' z=>⟨v,m',⟨_,be.mpr rfl,z.1.1,z.1.2▸gm⟩,z.2⟩
theorem Qx{ts:ae TV}{tm:ae TO}{outs:ae Out}(h:Zb ts tm=af outs){vs:ae AV}{m:ae AO}(gv:dH ts vs)(gm:GM tm m):DW (PV W X hX 2 j cB) 802 vs m outs:=
 ob.u h λ T aa h=>ob.u h λ R aa h=>ob.u h λ p aa h=>ob.u h λ x aa h=>ob.u h λ y aa h=>bE.u h λ hb h=>jN.u h λ L hL h=>jN.u h λ C hC h=>jN.u h λ r hr h=>
  have b1:=aF hb; have b2:=aF b1.2
  dH.u4 (T.2▸gv:dH [T.1.1,T.1.2.1,T.1.2.2.1,T.1.2.2.2] vs) (Q:=λ vs=>DW (PV W X hX 2 j cB) 802 vs m outs) λ u v w z g1 g2 g3 g4=>have g1:m8 R.1 u:=(R.2▸g1:GV (.gr R.1) u)
   (ly g2 p.2).symm▸(ly g3 x.2).symm▸(ly g4 y.2).symm▸am h▸Uo gm (Se (W:=W) (X:=X) (hX:=hX) (j:=j) (cB:=cB) (d:=0) g1 b1.1 b2.1 b2.2 hL hC hr) λ aa=>g1.eU
def Ub:xV:=λ f ts tm=>aX (a_ f 865) (SG ts tm) (aX (a_ f 802) (Zb ts tm) none)
theorem Pl{f:au}{ts:ae TV}{tm:ae TO}{outs:ae Out}(h:Ub f ts tm=af outs){vs:ae AV}{m:ae AO}(gv:dH ts vs)(gm:GM tm m):DW (PV W X hX 2 j cB) f vs m outs:=
 condB h (λ q h=>(aL q).symm▸MD h gv gm) λ aa h=>condB h (λ q h=>(aL q).symm▸Qx h gv gm) λ aa h=>cu h
end
def Ym(o:TO):aq {u:e9 // o= .ns [] []}:=match o with
 | .ns [] []=>af ⟨(),rfl⟩
 |_=>none
def SF(ts:ae TV)(tm:ae TO):aq (ae Out):=ob (y9 ts) λ t=>ob (VY 567 t.1 tm) λ e=>jN (gU tm e.1.2) λ o ho=>ob (Ym o) λ aa=>nB (sY [e.1.2,e.1.1] tm.length) (af [(.ex .none,q5 (tm++[.ba]) e.1.2 (.enc tm.length 0))])
def Za(ts:ae TV)(tm:ae TO):aq (ae Out):=ob (y9 ts) λ t=>ob (ZO t.1 tm) λ e=>nB (bB e.1.2.2.2 19000&&(yd tm e.1.2.1 e.1.2.2.1&&sY [e.1.2.1,e.1.1,e.1.2.2.1] tm.length)) (af [(.JI 100000,q5 tm e.1.2.1 (.ns [13,14,15,16] [.ai, .ai, .ai, .ex (.own e.1.2.2.1)]))])
theorem r8:∀{m l:ae AO} {i:Nat} {o x:AO},bM m i=af x->bz (m++l) i o=bz m i o++l
 |[],_,_,_,_=>λ h=>cu h
 |v::r,l,0,o,x=>λ h=>rfl
 |v::r,l,i+1,o,x=>λ h=>ah (v::·) (r8 (m:=r) h)
section
variable{prog:aK}{w:bw}{W:WK prog w}{X:BM->Prop}{hX:∀G G',dG G G'->X G->X G'}{tm:ae TO}{m:ae AO}{e je q L:Nat}
theorem PP(gm:GM tm m)(hi:gU tm e=af (.inst 567 je))(ho:gU tm je=af (.ns [] []))(sel:sY [je,e] tm.length=true):DW (PQ W X hX 4) 529 [.own e] m [(.ex .none,q5 (tm++[.ba]) je (.enc tm.length 0))]:=
 have N:=(qF sel).1
 have m1:=gm.inst hi
 have m2:bM m je=af (.ns [] []):=(gm.at ho).elim λ o z=>aD z.2 λ us y=>z.1.trans (ah af (y.1.trans (ah (AO.ns []) (show us=[] from y.2))))
 have D:fm (PQ W X hX 4) 529 [.own e] m λ v m'=>v= .none/\m'=bz m je (.ns [13,14,15,16] [.int 65536, .int 0, .int 11, .own m.length])++[.ba []]:=
  fm.use [je,e] (KX (W:=W) (X:=X) (hX:=hX) (d:=2)) rfl (gm.len▸sel) rfl (bX m2<|bX m1<|rfl) λ v m' j=>⟨ah (ew (eU [je,e] m.length)) j.1,(ah (upd (eU [je,e] m.length) [je,e] · m) j.2).trans
   (ah (·++[AO.ba []]) (mv ((dV (mM N 1 0 rfl rfl rfl)).trans m1):bz (bz m je (.ns [13,14,15,16] [.int 65536, .int 0, .int 11, .own m.length])) e (.inst 567 je)=_))⟩
 D.elim λ v z=>z.elim λ m' z=>⟨v,m',⟨_,be.mpr rfl,z.1.1,z.1.2.symm▸r8 m2▸GM.T1 (gm.app (o:= .ba) (o':= .ba []) ⟨[],rfl⟩ rfl) (i:=je) (q:=tm.length) (L:=0) (o:= .ns [] []) (xk ho) rfl zq
  ⟨65536,0,11,[],gm.len▸rfl,gm.len▸qb,pf.start,cF _⟩⟩,z.2⟩
theorem Uf(gm:GM tm m)(A:BA tm e je q L)(lo:yd tm je q=true)(sel:sY [je,e,q] tm.length=true)(hL:L<=19000):DW (PQ W X hX 4) 564 [.own e] m [(.JI 100000,q5 tm je (.ns [13,14,15,16] [.ai, .ai, .ai, .ex (.own q)]))]:=
 have N:=(qF sel).1
 A.u gm λ size code left bs E lb=>
  have D:fm (PQ W X hX 4) 564 [.own e] m λ v m'=>(∃l,v= .ky l/\l.length < 100000)/\∃(size code left:Int) (bs:ae bZ),m'=bz (bz m je (.ns [13,14,15,16] [.int size, .int code, .int left, .own q])) q (.ba bs):=
   fm.use [je,e,q] (K7 (W:=W) (X:=X) (hX:=hX) (d:=0) E.E (aT (aG lb hL) (by decide))) rfl (gm.len▸sel) rfl (bX E.o<|bX E.i<|bX E.b<|rfl) λ v m' j=>⟨j.1.imp λ l y=>⟨ah (ew (eU [je,e,q] m.length)) y.1,y.2⟩,
    j.2.imp λ size=> .imp λ code=> .imp λ left=> .imp λ bs y=>(ah (upd (eU [je,e,q] m.length) [je,e,q] · m) (show _=encM size code left bs from y)).trans ((bS _).trans (ah (bz · q (AO.ba bs)) (mv ((dV (mM N 1 0 rfl rfl rfl)).trans E.i):bz (bz m je (.ns [13,14,15,16] [.int size, .int code, .int left, .own q])) e (.inst 567 je)=_)))⟩
  D.elim λ v z=>z.elim λ m' z=>z.1.1.elim λ l y=>z.1.2.elim λ size k=>k.elim λ code k=>k.elim λ left k=>k.elim λ bs k=>⟨v,m',⟨_,be.mpr rfl,⟨l,y.1,eX y.2⟩,k.symm▸gm.two A.o rfl (gm.enc _ _ q A.o rfl) lo
   ⟨_,rfl, .cons ⟨size,rfl⟩ (.cons ⟨code,rfl⟩ (.cons ⟨left,rfl⟩ (.cons rfl rfl)))⟩ λ p hp=>cu hp⟩,z.2⟩
theorem MC{ts:ae TV}{outs:ae Out}(h:SF ts tm=af outs){vs:ae AV}(gv:dH ts vs)(gm:GM tm m):DW (PQ W X hX 4) 529 vs m outs:=
 ob.u h λ t aa h=>ob.u h λ e aa h=>jN.u h λ o ho h=>ob.u h λ z aa h=>nB.u h λ hc h=>dH.v1 t.2 gv (Q:=λ vs=>DW (PQ W X hX 4) 529 vs m outs) λ v g=>(ly g e.2.1).symm▸am h▸PP gm e.2.2 (ho.trans (ah af z.2)) hc
theorem Qw{ts:ae TV}{outs:ae Out}(h:Za ts tm=af outs){vs:ae AV}(gv:dH ts vs)(gm:GM tm m):DW (PQ W X hX 4) 564 vs m outs:=
 ob.u h λ t aa h=>ob.u h λ e aa h=>nB.u h λ hc h=>have c1:=aF hc; have c2:=aF c1.2; dH.v1 t.2 gv (Q:=λ vs=>DW (PQ W X hX 4) 564 vs m outs) λ v g=>(ly g e.2.1).symm▸am h▸Uf gm e.2.2 c2.1 c2.2 (aQ c1.1)
def Ua:xV:=λ f ts tm=>aX (a_ f 536) (Zc ts tm) (aX (a_ f 529) (SF ts tm) (aX (a_ f 564) (Za ts tm) none))
theorem Pk{f:au}{ts:ae TV}{tm:ae TO}{outs:ae Out}(h:Ua f ts tm=af outs){vs:ae AV}{m:ae AO}(gv:dH ts vs)(gm:GM tm m):DW (PQ W X hX 4) f vs m outs:=
 condB h (λ q h=>(aL q).symm▸Qy h gv gm) λ aa h=>condB h (λ q h=>(aL q).symm▸MC h gv gm) λ aa h=>condB h (λ q h=>(aL q).symm▸Qw h gv gm) λ aa h=>cu h
end
section
variable{prog:aK}{w:bw}(W:WK prog w)(X:BM->Prop)(hX:∀G G',dG G G'->X G->X G')(j:aC)
def lS:Nat->xV
 |0=>bR
 |n+1=>λ f ts tm=>oe (aX (j&&fu 0 n) (Ua f ts tm) none) (oe (Ub f ts tm) (K4 (PV W X hX (2 * n+1) j (lS n)) FT f ts tm))
def PN(n:Nat):cC:=PV W X hX (2 * n+1) j (lS W X hX j n)
theorem qw:∀n,l6 (PN W X hX j n)
 |0=>λ aa aa aa aa h=>cu h
 |n+1=>λ f ts tm outs h vs m gv gm=>oe.v (h:oe (aX (j&&fu 0 n) (Ua f ts tm) none) (oe (Ub f ts tm) (K4 (PV W X hX (2 * n+1) j (lS W X hX j n)) FT f ts tm))=af outs)
  (λ k=>condB k (λ q k=>have q:=aF q; DW.le (P:=PQ W X hX 4) (Q:=(PN W X hX j (n+1)).dn) ⟨rfl,rfl,(fF (jE 2 (lR q.2)) 2:2 * 1+2<=2 * n+2), .inr q.1.symm,λ aa h=>h⟩ (Pk (W:=W) (X:=X) (hX:=hX) k gv gm)) λ aa k=>cu k)
  λ k=>oe.v k (λ k=>DW.le (P:=PV W X hX 2 j bR) (Q:=(PN W X hX j (n+1)).dn) ⟨rfl,rfl,(Nat.le_add_left 2 (2 * n):2<=2 * n+2), .inr rfl,λ aa h=>h⟩ (Pl (W:=W) (X:=X) (hX:=hX) k gv gm))
   λ k=>DW.le (P:=(PN W X hX j n).up) (Q:=(PN W X hX j (n+1)).dn) ⟨rfl,rfl,(cF _:2 * n+2<=2 * n+2), .inr rfl,λ aa h=>h⟩ (GG (W:=W) (X:=X) (hX:=hX) (j:=j) (cB:=lS W X hX j n) (d:=2 * n) (P:=PN W X hX j n) rfl (qw n) (λ aa h=>h) k gv gm)
end
theorem tg.eU(f:Nat->Nat):∀{us:ae AV},tg us->eu f us=us
 |[]=>λ aa=>rfl
 |v::r=>λ h=>h.1.elim λ i e=>(ah (·::eu f r) (e.symm▸rfl:ew f v=v)).trans (ah (v::·) (tg.eU f h.2))
structure gZ(P:cC)(IV sc:AV)(ks:ae (ae Int))(us:ae AV)(sz:Int):Prop where
 i:tg us
 it:∃v xJ qk r0 r1,tg xJ/\xJ.length=ks.length/\tg qk/\qk.length=ks.length/\WC P 640 [sc, .int 2, .own 0] [.bG ks us] (λ v' m=>v'=v/\m= .bG ks xJ::r0)/\WC P 49 [IV,v] (.bG ks xJ::r0) (λ v' m=>v'= .int sz/\m= .bG ks qk::r1)
def allI:(ts:ae TV)->aq {u:e9 // ∀us,dH ts us->tg us}
 |[]=>af ⟨(),λ us g=>g.u0 (Q:=tg) trivial⟩
 |t::r=>ob (tI t) λ x=>ob (allI r) λ y=>af ⟨(),λ us g=>g.uc (Q:=tg) λ u v g1 g2=>⟨x.2 _ g1,y.2 _ g2⟩⟩
abbrev WL(ks:ae (ae Int))(m:ae AO):Prop:=∃us r,m= .bG ks us::r/\tg us/\us.length=ks.length
theorem Uk{ks xI:ae (ae Int)}{ts:ae TV}{r:ae TO}(h:xI=ks)(x:∀us,dH ts us->tg us)(l:ts.length=ks.length):∀m,GM (.bG xI ts::r) m->WL ks m
 |[],g=>(g.get 0 _ rfl).elim λ aa z=>cu z.1
 |b::m,g=>(g.get 0 _ rfl).elim λ o z=>aD z.2 λ us y=>⟨us,m,ah (·::m) ((am z.1).trans (y.1.trans (ah (AO.bG · us) h))),x _ y.2,y.2.len.trans l⟩
def XV(ks:ae (ae Int))(t:ae TO):aq {u:e9 // ∀m,GM t m->WL ks m}:=match t with
 | .bG xI ts::r=>dE (nV xI ks) λ h=>ob (allI ts) λ x=>bE (a_ ts.length ks.length) λ hl=>af ⟨(),Uk h x.2 (aL hl)⟩
 |_=>none
noncomputable def ZG(l:ae Out):aq {c:Out // l=[c]}:=match l with
 |[c]=>af ⟨c,rfl⟩
 |_=>none
def SY(f:xV)(sc iv:TV)(ks:ae (ae Int))(ts:ae TV):aq e9:=ob (allI ts) λ aa=>ob (f 640 [sc, .ex (.int 2), .ex (.own 0)] [.bG ks ts]) λ outs=>ob (ZG outs) λ c=>ob (f 49 [iv,c.1.1] c.1.2) λ outs=>ob (ZG outs) λ e=>ob (tI e.1.1) λ aa=>ob (XV ks c.1.2) λ aa=>ob (XV ks e.1.2) λ aa=>af ()
theorem DW.one{P:cC}{f:au}{vs:ae AV}{m:ae AO}{outs:ae Out}{c:Out}(h:DW P f vs m outs)(e:outs=[c]){Q:Prop}(k:∀v m',GV c.1 v->GM c.2 m'->WC P f vs m (λ v' U4=>v'=v/\U4=m')->Q):Q:=
 h.elim λ v h=>h.elim λ m' h=>h.1.elim λ o z=>have eo:o=c:=be.mp (e▸z.1); k v m' (eo▸z.2.1) (eo▸z.2.2) h.2
theorem Uq{o:TO}{o':AO}(h:GO [o'] o o')(e:ml o=none):GM [o] [o']:=
 ⟨rfl,λ i x=>match i with
  |0=>λ q=>⟨o',rfl,am q▸h⟩
  |_+1=>λ q=>cu q,λ i x p=>match i with
  |0=>λ q hq=>cu (e.symm.trans (am q▸hq))
  |_+1=>λ q=>cu q⟩
section
variable{prog:aK}{w:bw}{W:WK prog w}{X:BM->Prop}{hX:∀G G',dG G G'->X G->X G'}
theorem Q3{n:Nat}{sc iv:TV}{ks:ae (ae Int)}{ts:ae TV}{us:ae AV}{scv IV:AV}(h:SY (lS W X hX true n) sc iv ks ts=af ())(gs:GV sc scv)(gi:GV iv IV)(g0:dH ts us):∃sz,gZ (PN W X hX true n).dn IV scv ks us sz:=
 ob.u h λ hI aa h=>ob.u h λ outs e1 h=>ob.u h λ c aa h=>ob.u h λ aeR e2 h=>ob.u h λ e aa h=>ob.u h λ hi aa h=>ob.u h λ a1 aa h=>ob.u h λ a2 aa aa=>
  (qw W X hX true n _ _ _ _ e1 [scv, .int 2, .own 0] [.bG ks us] (.cons gs (.cons rfl (.cons rfl rfl))) (Uq (o:= .bG ks ts) ⟨us,rfl,g0⟩ rfl)).one c.2 λ v' m' gv gm z1=>
  (qw W X hX true n _ _ _ _ e2 [IV,v'] m' (.cons gi (.cons gv rfl)) gm).one e.2 λ u U4 gu gm2 z2=>(hi.2 u gu).elim λ sz ez=>(a1.2 _ gm).elim λ xJ y=>y.elim λ r0 y=>(a2.2 _ gm2).elim λ qk x=>x.elim λ r1 x=>
   ⟨sz,hI.2 _ g0,v',xJ,qk,r0,r1,y.2.1,y.2.2,x.2.1,x.2.2,y.1▸z1,y.1▸x.1▸ez▸z2⟩
end
theorem MR:∀(c a k:Nat),eU.go (fY a c) (a+c) k=a+k
 |0,a,k=>rfl
 |c+1,a,0=>rfl
 |c+1,a,k+1=>(ah (λ n=>eU.go (fY (a+1) c) n k) (cV a 1 c:a+1+c=a+c+1).symm).trans ((MR c (a+1) k).trans (cV a 1 k))
theorem QD(i c L:Nat):eU (i::fY L c) (L+c)=eU [i] L:=funext λ k=>match k with
 |0=>rfl
 |k+1=>MR c L k
theorem sM{o:AO}:∀{A B:ae AO} {j:Nat},A.length<=j->∃B',bz (A++B) j o=A++B'
 |[],_,_=>λ aa=>⟨_,rfl⟩
 |_::_,_,0=>λ h=>bt h (jc _)
 |a::A,B,j+1=>λ h=>(sM (A:=A) (B:=B) (k_ h)).imp λ aa=>ah (a::·)
theorem zu{f:Nat->Nat}{A:ae AO}:∀(sel:ae Nat) (mem B:ae AO),(∀j∈sel,A.length<=j)->∃B',upd f sel mem (A++B)=A++B'
 |j::sel,o::r,B=>λ h=>(sM (h j aR)).elim λ B1 e=>(zu sel r B1 λ k hk=>h k (aP _ hk)).imp λ B' e'=>(ah (upd f sel r) e).trans e'
 |[],r,B=>λ aa=>⟨_,gR ..⟩
 |_::_,[],B=>λ aa=>⟨B,rfl⟩
theorem sN{a b:AO}:∀{M:ae AO} {i:Nat},bz (bz M i a) i b=bz M i b
 |[],_=>rfl
 |_::_,0=>rfl
 |v::M,i+1=>ah (v::·) (sN (M:=M) (i:=i))
theorem MV{L c j:Nat}(h:j∈fY L c):L<=j:=(List.mem_range'.mp h).elim λ k z=>z.2▸bq _ _
theorem Vv{L c k j:Nat}(h:(fY L c)[k]?=af j):j=L+k:=
 am (h.symm.trans ((List.getElem?_range' (io (jr h) Jq:k < c)).trans (ah (λ n=>af (L+n)) (H7 k))))
inductive RI(P:cC)(IV sc:AV)(ks:ae (ae Int))(sz:Int)(M:ae AO)(i:Nat):Prop
 |mk (k:AV) (xJ qk:ae AV) (r0 r1:ae AO) (q1:tg xJ) (l1:xJ.length=ks.length) (q2:tg qk) (l2:qk.length=ks.length) (w1:WC P 640 [sc, .int 2, .own i] M λ v m=>v=k/\m=bz M i (.bG ks xJ)++r0) (w2:WC P 49 [IV,k] (bz M i (.bG ks xJ)++r0) λ v m=>v= .int sz/\m=bz M i (.bG ks qk)++r1)
theorem gZ.use{P:cC}{IV sc:AV}{ks:ae (ae Int)}{us:ae AV}{sz:Int}(h:gZ P IV sc ks us sz){M:ae AO}{i:Nat}(hi:bM M i=af (.bG ks us))(cs:∀f,ew f sc=sc)(cI:∀f,ew f IV=IV):RI P IV sc ks sz M i:=by
 rcases h with⟨hI,v,xJ,qk,r0,r1,q1,l1,q2,l2,z1,z2⟩
 have cl {us:ae AV} (h:tg us):lq (eU [i] M.length) (.bG ks us)= .bG ks us:=ah (AO.bG ks) (h.eU _)
 have e1:WC P 640 [sc, .int 2, .own i] M λ v' m=>v'=ew (eU [i] M.length) v/\m=bz M i (.bG ks xJ)++upd.Jc (eU [i] M.length) r0:=
  WC.FM [i] z1 (ah (λ s=>[s,AV.int 2, .own i]) (cs _).symm) (bN.mpr ⟨c6 (qa hi),rfl⟩) rfl (bX (hi.trans (ah af (cl hI).symm)) rfl) ⟨rfl,ah (λ o=>bz M i o++upd.Jc (eU [i] M.length) r0) (cl q1)⟩
 rw[sV] at e1
 have L1:(bz M i (.bG ks xJ)).length=M.length:=fJ ..
 have L2:(bz M i (.bG ks xJ)++r0.map (lq (eU [i] M.length))).length=M.length+r0.length:=bj.trans (congr (ah _ L1) (bL _))
 have er:eU (i::fY M.length r0.length) (bz M i (.bG ks xJ)++r0.map (lq (eU [i] M.length))).length=eU [i] M.length:=(ah _ L2).trans (QD i _ _)
 have e2:=WC.B6 z2 (i::fY M.length r0.length) (bz M i (.bG ks xJ)++r0.map (lq (eU [i] M.length))) (dU.mpr ⟨λ q=>fw _ (fj (qa hi) (MV q)),List.nodup_range'⟩) (ah rE Jq) λ k j ao h1 h2=>er.symm▸(match k,h1,h2 with
  |0,h1,h2=>am h1▸am h2▸((dD (L1.symm▸qa hi)).trans ((eL _ _).symm.trans ((r7 hi).trans (ah af (cl q1).symm))))
  |k+1,h1,h2=>(Vv h1).symm▸(eP (L1.symm▸bq _ _)).trans ((ah (λ n=>(r0.map (lq (eU [i] M.length)))[n]?) ((ah (M.length+k - ·) L1).trans (hO ..))).trans (eQ.trans (ah (ed _) h2))))
 rw[er] at e2
 refine(zu (f:=eU [i] M.length) (A:=bz M i (.bG ks qk)) (fY M.length r0.length) r1 (r0.map (lq (eU [i] M.length))) λ j hj=>(fJ ..).symm▸MV hj).elim λ r1' er'=>?_
 exact⟨_,xJ,qk,_,r1',q1,l1,q2,l2,e1,(ah (λ s=>[s,ew (eU [i] M.length) v]) (cI (eU [i] M.length)):eu (eU [i] M.length) [IV,v]=_)▸e2.mono λ u m z=>z.elim λ av z=>z.elim λ m' z=>⟨z.2.1.trans (ah (ew _) z.1.1),z.2.2.1.trans ((ah (upd _ _ · _) z.1.2).trans
  ((ah (upd _ _ r1) ((r8 (r7 hi)).trans (congr (ah _ (sN.trans (ah (bz M i) (cl q2)))) rfl))).trans er'))⟩⟩
noncomputable def ac1:TV:= .rw [(-2,2),(-2,2),(-2,2),(-2,2)]
def vW(r:ae Int):Prop:=q9 [(-2,2),(-2,2),(-2,2),(-2,2)] r
noncomputable def cpV(i a:Int):AV:= .inst 713 [19,20,21,22] [.int i, .int a, .int 1, .int 0]
def jw(a:Int)(two:aC)(wd:Int):AV:= .inst 779 [23,24,25,26,27,9] [.any, .int 8, .int 2, .int wd, .lst (aX two [cpV 1 a,cpV 2 1] [cpV 1 a]), .int 2]
noncomputable def jz(pl dc ac:ae Int)(a b:Int):AV:= .inst 847 [30,31,32,33,11,34,4] [.row pl, .row dc, .row ac, .int a, .int b, .int 0, .int 0]
noncomputable def Dm(two:aC)(n0 n1:Nat):ae (ae Int):=(eA n0).map (λ(x:Nat)=>[(0:Int),(x:Int),0])++aX two ((eA n1).map λ(x:Nat)=>[(1:Int),(x:Int),0]) []
noncomputable def ox(two:aC)(n0 n1:Nat)(rows:ae (ae Int)):AV:= .bG (Dm two n0 n1) (rows.map AV.row)
noncomputable def q_(c:aC×ae Int):AV:=aX c.1 (.row c.2) .none
noncomputable def ot{α:Type}(two:aC)(n0:Nat)(l:ae α):ae (ae (ae α)):=aX two [[l.take n0],[l.drop n0]] [[l]]
def sE(two:aC)(n0:Nat)(cs:ae (aC×ae Int)):AV:= .inst 812 [28,29] [.int 4, .lst ((ot two n0 (cs.map q_)).map λ p=> .lst (p.map AV.lst))]
def GN(two:aC)(n0 n1:Nat)(cs:ae (aC×ae Int)):AV:= .tup [sE two n0 cs,ox two n0 n1 (cs.map (·.2))]
def Zo(s:ae Int):ae Int:=[FG s 5 - 2,FG (gD s 5) 5 - 2,FG (gD (gD s 5) 5) 5 - 2,FG (gD (gD (gD s 5) 5) 5) 5 - 2]
def ada(s:ae Int):ae Int:=gD (gD (gD (gD s 5) 5) 5) 5
def Ru:Nat->ae Int->ae (ae (aC×ae Int)×ae Int)
 |0,s=>[([],s)]
 |n+1,s=>(Ru n (gD s 4)).map (λ p=>((false,[0,0,0,0])::p.1,p.2))++(Ru n (ada (gD s 4))).map (λ p=>((true,Zo (gD s 4))::p.1,p.2))
theorem S6(s:ae Int): -2<=FG s 5 - 2/\FG s 5 - 2<=2:=by
 have h:=nk s (top:=5) (by decide)
 omega
theorem QM(s:ae Int):vW (Zo s):=⟨_,_,rfl,(S6 _).1,(S6 _).2,_,_,rfl,(S6 _).1,(S6 _).2,_,_,rfl,(S6 _).1,(S6 _).2,_,_,rfl,(S6 _).1,(S6 _).2,rfl⟩
theorem QL:vW [0,0,0,0]:=⟨_,_,rfl,by decide,by decide,_,_,rfl,by decide,by decide,_,_,rfl,by decide,by decide,_,_,rfl,by decide,by decide,rfl⟩
def nH(c:aC×ae Int):Prop:=vW c.2/\(c.1=false->c.2=[0,0,0,0])
structure W1(n:Nat)(p:ae (aC×ae Int)×ae Int):Prop where
 n:p.1.length=n
 l:p.2.length=2
 c:∀c∈p.1,nH c
theorem AY:∀(n:Nat) (s:ae Int),s.length=2->∀p∈Ru n s,W1 n p
 |0,s,hs,p,hp=>be.mp hp▸⟨rfl,hs,sq⟩
 |n+1,s,hs,p,hp=>(fQ.mp hp).elim
   (λ hp=>(dN.mp hp).elim λ q z=>have y:=AY n _ rfl q z.1; z.2▸⟨ah (·+1) y.n,y.l,all2 ⟨QL,λ aa=>rfl⟩ y.c⟩)
   λ hp=>(dN.mp hp).elim λ q z=>have y:=AY n _ rfl q z.1; z.2▸⟨ah (·+1) y.n,y.l,all2 ⟨QM _,λ e=>nomatch e⟩ y.c⟩
theorem TH:∀{c:aC×ae Int},nH c->q_ c= .row c.2\/q_ c= .none/\c.2=[0,0,0,0]
 |(true,_),_=> .inl rfl
 |(false,_),h=> .inr ⟨rfl,h.2 rfl⟩
theorem vh:∀{cs:ae (aC×ae Int)},(∀c∈cs,nH c)->zB (cs.map (·.2)) (cs.map q_)
 |[],_=>rfl
 |c::r,h=>⟨_,_,rfl,TH (h c aR),vh λ d hd=>h d (aP _ hd)⟩
theorem Ad{two:aC}{n0:Nat}{cs:ae (aC×ae Int)}(h:∀c∈cs,nH c):m8 (ot two n0 (cs.map (·.2))) (sE two n0 cs):=by
 refine⟨_,rfl,?_⟩
 cases two with
 |false=>exact⟨_,_,rfl,⟨_,rfl,⟨_,_,rfl,⟨_,rfl,vh h⟩,rfl⟩⟩,rfl⟩
 |true=>
  have e1:(cs.map (·.2)).take n0=(cs.take n0).map (·.2):=List.map_take.symm
  have e2:(cs.map (·.2)).drop n0=(cs.drop n0).map (·.2):=List.map_drop.symm
  have e3:(cs.map q_).take n0=(cs.take n0).map q_:=List.map_take.symm
  have e4:(cs.map q_).drop n0=(cs.drop n0).map q_:=List.map_drop.symm
  refine⟨_,_,rfl,⟨_,rfl,⟨_,_,rfl,⟨_,rfl,?_⟩,rfl⟩⟩,_,_,rfl,⟨_,rfl,⟨_,_,rfl,⟨_,rfl,?_⟩,rfl⟩⟩,rfl⟩
  ·show zB ((cs.map (·.2)).take n0) ((cs.map q_).take n0)
   rw[e1,e3]; exact vh λ c hc=>h c (FX hc)
  ·show zB ((cs.map (·.2)).drop n0) ((cs.map q_).drop n0)
   rw[e2,e4]; exact vh λ c hc=>h c (FW hc)
theorem DW.src{P:cC}{f:au}{vs:ae AV}{m:ae AO}{outs:ae Out}(h:DW P f vs m outs){α:Type}{l:ae α}{g:α->AV}{k:α->ae Int}(e:outs=l.map λ a=>(.ex (g a),[.ix (k a)])):∃a∈l,WC P f vs m λ v m'=>v=g a/\m'=[.il (k a)]:=
 h.elim λ v h=>h.elim λ m' h=>h.1.elim λ o ho=>(dN.mp (show o∈l.map λ a=>((.ex (g a),[.ix (k a)]):Out) from e▸ho.1)).elim λ a ha=>⟨a,ha.1,h.2.mono λ v' U4 z=>
  have gv:GV (.ex (g a)) v:=(ah (GV ·.1 v) ha.2).mpr ho.2.1
  have gm:GM [.ix (k a)] m':=(ah (GM ·.2 m') ha.2).mpr ho.2.2
  ⟨z.1.trans gv,z.2.trans ((gm.get 0 _ rfl).elim λ o q=>(DQ.mp gm.len.symm).elim λ a ea=>ea.trans (ah (λ x=>[x]) ((am ((ah (bM · 0) ea).symm.trans q.1)).trans q.2)))⟩⟩
theorem GM.src(r:ae Int):GM [.ix r] [.il r]:=⟨rfl,(λ i o e=>match i,e with
 |0,e=>am e▸⟨_,rfl,rfl⟩),(λ i o q e hq=>match i,e with
 |0,e=>nomatch (ah ml (am e)).trans hq)⟩
section
variable{prog:aK}{w:bw}{W:WK prog w}{X:BM->Prop}{hX:∀G G',dG G G'->X G->X G'}{x y:Int}
noncomputable def iZ:ae (Int×aC×Int):=[(1,false,2),(1,false,4),(1,true,2),(1,true,4),(2,false,2),(2,false,4),(2,true,2),(2,true,4)]
theorem Pv:lS W X hX false 5 872 [.ex (.own 0)] [.ix [x,y]]=af (iZ.map λ c=>(.ex (jw c.1 c.2.1 c.2.2),[.ix (gD (gD (gD [x,y] 2) 2) 2)])):=by kernel_rfl
noncomputable def bi(c:Int×aC×Int):Nat×Nat:=(aX (c.1==1&&c.2.2==2) 1 2,aX c.2.1 (aX (c.1==1&&c.2.2==4) 2 1) 0)
theorem Ud:(iZ.map λ c=>ob (lS W X hX false 5 877 [.ex (.own 0), .ex (jw c.1 c.2.1 c.2.2)] [.ix [x,y]]) (fzL 1))=iZ.map λ c=>af ((Ru ((bi c).1+(bi c).2) [x,y]).map λ p=>(.ex (GN c.2.1 (bi c).1 (bi c).2 p.1),[.ix p.2])):=by kernel_rfl
noncomputable abbrev ug:=ae Int×ae Int×ae Int×Int×Int
noncomputable def ug.v(c:ug):AV:=jz c.1 c.2.1 c.2.2.1 c.2.2.2.1 c.2.2.2.2
def VI(s:ae Int):ae (ug×ae Int):=[
 (([0],[0],[0],1,3),gD (gD (gD s 2) 1) 2),(([0],[0],[1],1,3),gD (gD (gD s 2) 1) 2),
 (([0],[0],[0],0,0),gD (gD (gD (gD s 2) 2) 1) 2),(([0],[1],[0],0,0),gD (gD (gD (gD s 2) 2) 1) 2),
 (([0],[0],[0],0,0),gD (gD (gD s 2) 2) 2),(([0],[1],[0],0,0),gD (gD (gD s 2) 2) 2)]
def VJ(s:ae Int):ae (ug×ae Int):=[
 (([0],[0],[0],1,3),gD (gD (gD s 2) 2) 2),(([0],[0],[1],1,3),gD (gD (gD s 2) 2) 2),(([1],[0],[0],1,3),gD (gD (gD s 2) 2) 2),(([1],[0],[1],1,3),gD (gD (gD s 2) 2) 2),
 (([0],[0],[0],0,0),gD (gD (gD (gD s 2) 2) 2) 2),(([0],[1],[0],0,0),gD (gD (gD (gD s 2) 2) 2) 2),(([1],[0],[0],0,0),gD (gD (gD (gD s 2) 2) 2) 2),(([1],[1],[0],0,0),gD (gD (gD (gD s 2) 2) 2) 2),
 (([0,1],[0,0],[0,0],0,0),gD (gD (gD (gD s 2) 2) 2) 2),(([0,1],[0,1],[0,0],0,0),gD (gD (gD (gD s 2) 2) 2) 2),(([0,1],[1,0],[0,0],0,0),gD (gD (gD (gD s 2) 2) 2) 2),(([0,1],[1,1],[0,0],0,0),gD (gD (gD (gD s 2) 2) 2) 2)]
def jA(two:aC)(s:ae Int):ae (ug×ae Int):=aX two (VJ s) (VI s)
theorem VH{a wd:Int}{two:aC}:lS W X hX false 5 882 [.ex (.own 0), .ex (jw a two wd)] [.ix [x,y]]=af ((jA two [x,y]).map λ c=>(.ex c.1.v,[.ix c.2])):=by
 cases two<;>kernel_rfl
theorem oO{j:aC}{n:Nat}{f:au}{ts:ae TV}{tm:ae TO}{outs:ae Out}(e:lS W X hX j n f ts tm=af outs){vs:ae AV}{m:ae AO}(gv:dH ts vs)(gm:GM tm m):DW (PN W X hX j n) f vs m outs:=(qw W X hX j n f ts tm outs e vs m gv gm).le (cC.Sa _)
theorem mR{r:ae Int}(h:r.length=2):∃x y,r=[x,y]:=by
 match r,h with
 |[x,y],_=>exact⟨x,y,rfl⟩
theorem Pu{r:ae Int}(hr:r.length=2):∃c∈iZ,∃r',r'.length=2/\WC (PN W X hX false 5) 872 [.own 0] [.il r] λ v m=>v=jw c.1 c.2.1 c.2.2/\m=[.il r']:=by
 obtain⟨x,y,rfl⟩:=mR hr
 obtain⟨c,hc,h⟩:=(oO (vs:=[.own 0]) (m:=[.il [x,y]]) (Pv (W:=W) (X:=X) (hX:=hX) (x:=x) (y:=y)) ⟨_,_,rfl,rfl,rfl⟩ (GM.src _)).src (g:=λ c:Int×aC×Int=>jw c.1 c.2.1 c.2.2) (k:=λ aa=>gD (gD (gD [x,y] 2) 2) 2) rfl
 exact⟨c,hc,_,rfl,h⟩
theorem Uc{c:Int×aC×Int}(hc:c∈iZ){r:ae Int}(hr:r.length=2):∃cs r',cs.length=(bi c).1+(bi c).2/\r'.length=2/\(∀c∈cs,nH c)/\
  WC (PN W X hX false 5) 877 [.own 0,jw c.1 c.2.1 c.2.2] [.il r] λ v m=>v=GN c.2.1 (bi c).1 (bi c).2 cs/\m=[.il r']:=by
 obtain⟨x,y,rfl⟩:=mR hr
 exact ob.u (r6 Ud c hc) λ outs e1 e2=>((oO (vs:=[.own 0,jw c.1 c.2.1 c.2.2]) (m:=[.il [x,y]]) e1 (.cons rfl (.cons rfl rfl)) (GM.src _)).fz e2).src (g:=λ p:ae (aC×ae Int)×ae Int=>GN c.2.1 (bi c).1 (bi c).2 p.1) (k:=λ p=>p.2) rfl|>.elim λ p hp=>
  have z:=AY _ _ rfl p hp.1; ⟨_,_,z.n,z.l,z.c,hp.2⟩
noncomputable def placesOf(two:aC):ae (ae Int):=aX two [[0],[1],[0,1]] [[0]]
structure W0(two:aC)(c:ug×ae Int):Prop where
 l:c.2.length=2
 p:c.1.1∈placesOf two
theorem Dt(two:aC)(s:ae Int):∀c∈jA two s,W0 two c:=by
 cases two
 ·exact all2 ⟨rfl, .head _⟩ (all2 ⟨rfl, .head _⟩ (all2 ⟨rfl, .head _⟩ (all2 ⟨rfl, .head _⟩ (all2 ⟨rfl, .head _⟩ (all2 ⟨rfl, .head _⟩ (sq))))))
 ·exact all2 ⟨rfl, .head _⟩ (all2 ⟨rfl, .head _⟩ (all2 ⟨rfl, .tail _ (.head _)⟩ (all2 ⟨rfl, .tail _ (.head _)⟩ (all2 ⟨rfl, .head _⟩ (all2 ⟨rfl, .head _⟩ (all2 ⟨rfl, .tail _ (.head _)⟩ (all2 ⟨rfl, .tail _ (.head _)⟩ (all2 ⟨rfl, .tail _ (.tail _ (.head _))⟩ (all2 ⟨rfl, .tail _ (.tail _ (.head _))⟩ (all2 ⟨rfl, .tail _ (.tail _ (.head _))⟩ (all2 ⟨rfl, .tail _ (.tail _ (.head _))⟩ (sq))))))))))))
theorem Jf(two:aC)(s:ae Int)(c:ug×ae Int)(h:c∈jA two s):c.2.length=2:=(Dt two s c h).l
theorem QW(two:aC)(s:ae Int)(c:ug×ae Int)(h:c∈jA two s):c.1.1∈placesOf two:=(Dt two s c h).p
theorem VG{a wd:Int}{two:aC}{r:ae Int}(hr:r.length=2):∃c∈jA two r,WC (PN W X hX false 5) 882 [.own 0,jw a two wd] [.il r] λ v m=>v=c.1.v/\m=[.il c.2]:=by
 obtain⟨x,y,rfl⟩:=mR hr
 exact(oO (vs:=[.own 0,jw a two wd]) (m:=[.il [x,y]]) VH (.cons rfl (.cons rfl rfl)) (GM.src _)).src (g:=λ c:ug×ae Int=>c.1.v) (k:=λ c=>c.2) rfl
end
noncomputable def kI:Ct:={names:=[("frame", .local),("scan", .local),("across", .local),("index", .local),("units_across", .globalImplicit),("range", .globalImplicit),("unit_count", .globalImplicit),("unit_at", .globalImplicit)],aS:=["frame","scan","across","index"]}
def DK(P:cC):SX P kI:=M0 2 (q 468 4 468 10) (DN (Wi "units_across" (.fn 647) (q 468 13 468 25)) (iS (eZ 0 (q 468 26 468 31)) (iS (eZ 1 (q 468 33 468 37)) qZ)) (q 468 13 468 38)) (q 468 4 468 38)
def DJ(P:cC):SE P kI:=HZ (q 469 17 469 22) (iS (DN (Wi "unit_count" (.fn 654) (q 469 23 469 33)) (iS (eZ 0 (q 469 34 469 39)) (iS (eZ 1 (q 469 41 469 45)) qZ)) (q 469 23 469 46)) qZ) (q 469 17 469 47)
def V9(P:cC):SE P kI:=DN (Wi "unit_at" (.fn 661) (q 470 14 470 21)) (iS (eZ 0 (q 470 22 470 27)) (iS (eZ 1 (q 470 29 470 33)) (iS (NR (eZ 3 (q 470 35 470 40)) .Mod (eZ 2 (q 470 43 470 49)) (q 470 35 470 49)) (iS (NR (eZ 3 (q 470 51 470 56)) .FloorDiv (eZ 2 (q 470 60 470 66)) (q 470 51 470 66)) qZ)))) (q 470 14 470 67)
def xv(P:cC):ae f0:=R0 (DK P).bA "index" (q 469 8 469 13) (DJ P).bA (V9 P).bA (q 470 8 470 67) (q 470 8 470 67) (q 469 4 470 67)
theorem Z1(P Q:cC):xv P=xv Q:=by kernel_rfl
def XY(K:eI)(f:au):aC:=y1 K f&&(fdB K kI ["frame","scan"] (fdOf K f) true&&(nQ (fdOf K f).params ["frame","scan"]&&YV (fdOf K f).defaults))
structure UK{prog:aK}{w:bw}(W:WK prog w):Prop where
 fn:XY W.K 668=true
 body:(fdOf W.K 668).body= .stmts (xv (P0 prog w))
def UE(P:cC)(a b c:AV):Nat->ae AV->Prop
 |_,[]=>True
 |i,v::r=>(V9 P).ab ⟨[.ex a, .ex b, .ex c, .ex (.int i)],[]⟩=af [(.ex v,⟨[.ex a, .ex b, .ex c, .ex (.int i)],[]⟩)]/\UE P a b c (i+1) r
theorem dH.exact:∀{l x:ae AV},dH (yQ l) x->x=l
 |[],_=>id
 |v::r,_=>λ h=>h.uc (Q:=λ x=>x=v::r) λ u t e g=>congr (ah pa (show u=v from e)) (dH.exact g)
theorem GS.exact{l:ae AV}{τ:St}(h:GS ⟨yQ l,[]⟩ τ):τ=⟨l,[]⟩:=congr (ah St.mk (dH.exact h.loc)) (cZ.mp h.mem.len.symm)
theorem GS.of(l:ae AV):GS ⟨yQ l,[]⟩ ⟨l,[]⟩:=⟨lj l,⟨rfl,λ i o e=>cu e,λ i o q e=>cu e⟩⟩
theorem D2.Ve{α β:Type}{R:(α->St->Prop)->Prop}{g:β->α->Prop}{b:β}{l:ae AV}(h:D2 R g [(b,⟨yQ l,[]⟩)]){v:α}(hv:∀a,g b a->a=v)(K:α->St->Prop)(k:K v ⟨l,[]⟩):R K:=
 h.u λ a τ b' s m ga gs r=>have e:=cU (be.mp m); r K ((hv a (e.1▸ga)).symm▸(GS.exact (e.2▸gs:GS ⟨yQ l,[]⟩ τ)).symm▸k)
theorem UE.at{P:cC}{a b c:AV}:∀{Vs:ae AV} {j:Nat},UE P a b c j Vs->∀i,i < Vs.length->(V9 P).ab ⟨[.ex a, .ex b, .ex c, .ex (.int (j+i:Nat))],[]⟩=af [(.ex (fC Vs i),⟨[.ex a, .ex b, .ex c, .ex (.int (j+i:Nat))],[]⟩)]
 |[],_=>λ aa aa h=>bt h (mx _)
 |v::r,j=>λ h i=>match i with
  |0=>λ aa=>h.1
  |i+1=>λ hi=>(oE j i)▸UE.at h.2 i (iq hi)
theorem GD:∀(Vs:ae AV) (V:Nat->AV) (i:Nat),(∀k,k < Vs.length->V (i+k)=fC Vs k)->TY V i Vs.length=Vs
 |[],_,_=>λ aa=>rfl
 |v::r,V,i=>λ h=>congr (ah pa (h 0 (uP _))) (GD r V (i+1) λ k hk=>(ah V (oE i k)).trans (h (k+1) (ge hk)))
theorem adq:RB ["frame","scan"]:=λ fd vs=>by kernel_rfl
section
variable{prog:aK}{w:bw}{W:WK prog w}{X:BM->Prop}{hX:∀G G',dG G G'->X G->X G'}{d:Nat}{cB:xV}
theorem Z0:((DK (PV W X hX (d+1) false cB)).ch&&((DJ (PV W X hX (d+1) false cB)).ch&&((V9 (PV W X hX (d+1) false cB)).ch&&o9 kI 3 "index")))=true:=by kernel_rfl
def uQ(P:cC)(a b c:AV)(Vs:ae AV):GQ P kI:=⟨q 469 8 469 13,q 470 8 470 67,q 470 8 470 67,q 469 4 470 67,DK P,DJ P,V9 P,a,b,c,Vs.length,fC Vs⟩
theorem NH(fo:l6 (PV W X hX (d+1) false cB)){a b c:AV}{Vs:ae AV}(N3:Builtin.Range.small 0 (Vs.length:Nat) 1=true)
  (h0:(DK (PV W X hX (d+1) false cB)).ab ⟨[.ex a, .ex b, .ex .undef, .ex .undef],[]⟩=af [(.d8,⟨[.ex a, .ex b, .ex c, .ex .undef],[]⟩)])
  (h1:(DJ (PV W X hX (d+1) false cB)).ab ⟨[.ex a, .ex b, .ex c, .ex .undef],[]⟩=af [(.ex (.j_ 0 (Vs.length:Nat) 1),⟨[.ex a, .ex b, .ex c, .ex .undef],[]⟩)]) (h2:UE (PV W X hX (d+1) false cB) a b c 0 Vs):(uQ (PV W X hX (d+1) false cB) a b c Vs).Ok:=
 have k:=aF (Z0 (W:=W) (X:=X) (hX:=hX) (d:=d) (cB:=cB))
 have k2:=aF k.2
 have k3:=aF k2.2
 {hj:=rfl,c0:=k.1,c1:=k2.1,ce:=k3.1,ct3:=k3.2,hs:=λ aa aa=>rfl,N3:=N3
  Zp:=λ K k=>D2.Ve (l:=[a,b,c, .undef]) ((DK _).cO fo _ _ h0 _ (GS.of [a,b, .undef, .undef])) (λ aa=>id) K k
  Zq:=λ K k=>D2.Ve (l:=[a,b,c, .undef]) ((DJ _).cO fo _ _ h1 _ (GS.of [a,b,c, .undef])) (λ aa=>id) K k
  run:=λ i hi K k=>D2.Ve (l:=[a,b,c, .int i]) ((V9 _).cO fo _ _ (fy i▸UE.at h2 i hi) _ (GS.of [a,b,c, .int i])) (λ aa=>id) K k}
theorem Jo(U:UK W)(fo:l6 (PV W X hX (d+1) false cB)){a b c:AV}{Vs:ae AV}(cl:∀f,eu f [a,b]=[a,b])(hl:0 < Vs.length)(N3:Builtin.Range.small 0 (Vs.length:Nat) 1=true)
  (h0:(DK (PV W X hX (d+1) false cB)).ab ⟨[.ex a, .ex b, .ex .undef, .ex .undef],[]⟩=af [(.d8,⟨[.ex a, .ex b, .ex c, .ex .undef],[]⟩)])
  (h1:(DJ (PV W X hX (d+1) false cB)).ab ⟨[.ex a, .ex b, .ex c, .ex .undef],[]⟩=af [(.ex (.j_ 0 (Vs.length:Nat) 1),⟨[.ex a, .ex b, .ex c, .ex .undef],[]⟩)]) (h2:UE (PV W X hX (d+1) false cB) a b c 0 Vs):
  qS (PV W X hX (d+2) false cB) 668 [a,b] Vs:=by
 have hf:=aF U.fn
 have hg:=aF hf.2
 have hp:=aF hg.2
 have key:=qS.of (P:=PV W X hX (d+1) false cB) (st:=uQ _ a b c Vs) (NH fo N3 h0 h1 h2) (GH hg.1 (U.body.trans (ah fX (Z1 _ _))) λ s vals aa=>sT adq hp.1 (Ms hp.2) s vals) (CF hf.1) rfl (by decide) rfl rfl rfl (DS hl).symm cl
 exact(ah (qS (PV W X hX (d+2) false cB) 668 [a,b]) ((ah (TY (fC Vs) 0) (DS hl)).trans (GD Vs (fC Vs) 0 λ k aa=>ah (fC Vs) (fy k)))).mp key
end
theorem qS.le{P Q:cC}(x:P.Le Q){f:au}{vs Vs:ae AV}(h:qS P f vs Vs):qS Q f vs Vs:=by
 refine⟨λ A G ρ mem s us R room i8 M v k=>?_⟩
 have h1:=h.run A G ρ mem s us R (room.less x.d) (x.i8 G i8) M v
 rw[x.prog,x.w] at h1
 exact h1 k
noncomputable def ivS(fr sc:AV)(R:ae (ae (ae (ae Int))))(iv:Int):AS:=⟨[.ex fr, .gr R, .ex sc, .ex (.int iv), .ex (.own 1), .ex (.int 0), .ex .undef, .ex .undef, .ex .undef, .ex .undef, .ex .undef],[.lst [], .lst [.ex (.own 0)]]⟩
def Ki:(l:ae (AF×AS))->aq {u:e9 // ∀o∈l,o.1= .d8/\∀σ,GS o.2 σ->fC σ.loc 4= .own 1}
 |[]=>af ⟨(),λ aa h=>nomatch h⟩
 |(.d8,s)::r=>ob (Ki r) λ k=>match h:Rq s.loc 4 with
  |some (.ex (.own 1))=>af ⟨(),λ o ho=>by
   rcases bQ.mp ho with rfl|ho
   ·refine⟨rfl,λ σ gs=>?_⟩
    obtain⟨u,_,e,g⟩:=t3 gs.loc h
    rw[e]; exact g
   ·exact k.2 o ho⟩
  |_=>none
 |_=>none
def ivB(P:cC)(fr sc:AV)(R:ae (ae (ae (ae Int))))(iv:Int)(Vs:ae AV):aq (ae Out):=ob (Cg (na P).st (kK P).ab 12 (.fz (yQ Vs)) (ivS fr sc R iv)) λ outs=>ob (Ki outs) λ aa=>fzL 0 (outs.map λ o=>(.ex (.own 1),o.2.mem))
section
variable{prog:aK}{w:bw}{W:WK prog w}{X:BM->Prop}{hX:∀G G',dG G G'->X G->X G'}
theorem GM.nil:GM [] []:=⟨rfl,λ aa aa e=>cu e,λ aa aa aa e=>cu e⟩
theorem UM{P:cC}(fo:l6 P){Cf Cs:au}{kf ks:ae Nat}{vf vs:ae AV}{R:ae (ae (ae (ae Int)))}{gv:AV}{iv:Int}{Vs:ae AV}{bl:AV}(GC:qS P 668 [.inst Cf kf vf, .inst Cs ks vs] Vs)(hG:m8 R gv)
  (h:ivB P (.inst Cf kf vf) (.inst Cs ks vs) R iv Vs=af [(.ex bl,[])]):
  gY (λ K=>(kx P).run ⟨fill dQ.aS [.inst Cf kf vf,gv, .inst Cs ks vs, .int iv],[]⟩ (iE λ v m=>K (v,m))) λ a=>∃r,N1 0 a.1 a.2=af r/\r.1=bl/\r.2=[]:=by
 obtain⟨ps,rfl,PM⟩:=id hG
 refine ob.u h λ outs e1 e2=>ob.u e2 λ nx aa e2=>?_
 have g0:GS (ivS (.inst Cf kf vf) (.inst Cs ks vs) R iv) ⟨[.inst Cf kf vf, .inst 812 [28,29] [.int 4, .lst ps], .inst Cs ks vs, .int iv, .own 1, .int 0, .undef, .undef, .undef, .undef, .undef],[.lst [], .lst [.own 0]]⟩:=
  ⟨.cons rfl (.cons hG (.cons rfl (.cons rfl (.cons rfl (.cons rfl (.cons rfl (.cons rfl (.cons rfl (.cons rfl (.cons rfl rfl)))))))))),GM.app (o:= .lst [.ex (.own 0)]) (o':= .lst [.own 0]) (GM.app (t:=[]) (m:=[]) (o:= .lst []) (o':= .lst []) GM.nil ⟨[],rfl,rfl⟩ rfl) ⟨_,rfl, .cons rfl rfl⟩ rfl⟩
 refine(sC ((kK P).cO fo) 12 (.fz (yQ Vs)) (.fz 0 Vs) ⟨0,Vs,rfl,lj Vs⟩ _ outs e1 _ g0).u λ f σ b t ho gf gs k=>?_
 have n:=nx.2 (b,t) ho
 obtain rfl:f= .d8:=(n.1▸gf:GF .d8 f)
 refine(wN e2 _ (dN.mpr ⟨(b,t),ho,rfl⟩)).elim λ o' z=>ob.u z.2 λ v0 aa e3=>ob.u e3 λ m0 aa e3=>ob.u e3 λ r hr e3=>ob.u e3 λ t ht e3=>?_
 have e5:=cU ((am e3).trans (be.mp z.1))
 refine⟨(.own 1,σ.mem),⟨r,(congr (ah (N1 0) (v0.2 _ rfl)) (m0.2 σ.mem σ.mem gs.mem.len.symm gs.mem.get)).trans hr,by injection e5.1,cZ.mp (t.2.1.symm.trans (ah fZ e5.2))⟩,λ K hk=>?_⟩
 show ∃Vs,qS P 668 [.inst Cf kf vf, .inst Cs ks vs] Vs/\∃N,jq (na P).set (kK P).run N (.fz 0 Vs) _ _
 refine⟨Vs,GC,12,k _ ?_⟩
 show ldK (fC σ.loc 4) σ λ v aI=>K (v,aI.mem)
 exact(n.2 σ gs).symm▸hk
noncomputable def qW(p:Int×ae Int):AV:= .tup [.int p.1, .row p.2]
noncomputable def k8(l:ae (ae (Int×ae Int))):AV:= .lst (l.map λ b=> .lst (b.map qW))
def J3(P:cC)(a b:AV)(c:Int)(Vs:ae AV):Prop:=(DK P).ab ⟨[.ex a, .ex b, .ex .undef, .ex .undef],[]⟩=af [(.d8,⟨[.ex a, .ex b, .ex (.int c), .ex .undef],[]⟩)]/\
 (DJ P).ab ⟨[.ex a, .ex b, .ex (.int c), .ex .undef],[]⟩=af [(.ex (.j_ 0 (Vs.length:Nat) 1),⟨[.ex a, .ex b, .ex (.int c), .ex .undef],[]⟩)]/\UE P a b (.int c) 0 Vs
noncomputable def oy(pl:ae Int):ae (ae (ae Int)):=match pl with
 |[_]=>[[[0]],[[0,0]],[[0],[0]]]
 |_=>[[[0,1]],[[0,1,0,1]],[[0,1],[0,1]],[[0,0,1]]]
structure Kd where
 sc:AV
 two:aC
 ks:ae (ae Int)
 lo:Int
 hi:Int
noncomputable def E1(pl ac:ae Int):ae Kd:=[⟨jz pl [0] [0] 1 3,false,[[1,0]],1,3⟩,⟨jz pl [0] [1] 1 3,false,[[1,1]],1,3⟩,⟨jz pl [0] ac 0 0,false,[[0,0]],0,85⟩,⟨jz pl [1] ac 0 0,false,[[0,1]],0,85⟩,⟨jz pl [0,0] ac 0 0,true,[[0,0]],0,85⟩,⟨jz pl [1,1] ac 0 0,true,[[0,1]],0,85⟩,⟨jz pl [0,1] ac 0 0,true,[[0,0],[0,1]],0,85⟩,⟨jz pl [1,0] ac 0 0,true,[[0,0],[0,1]],0,85⟩]
noncomputable def shB(two:aC):ae (ae (ae Int)):=oy (aX two [0,1] [0])
noncomputable def Ht:ae (ae Int)->ae (ae (ae Int))
 |[]=>[]
 |k::r=>[k]::(Ht r).map (k::·)
structure JX(P:cC)(fr:AV)(pl:ae Int)(iv:Int)(rv gv:AV)(rows:ae (ae Int))(bl:ae (ae (Int×ae Int))):Prop where
 law:∀dc ac s e,WC P 892 [fr,jz pl dc ac s e,rv, .int iv] [] λ v m=>v=k8 bl/\m=[]
 own:∀dc ac s e,WC P 675 [fr,gv,jz pl dc ac s e, .int iv] [] λ v m=>v=k8 bl/\m=[]
 shp:bl.map (·.map (·.1))∈oy pl
 rok:∀b∈bl,∀p∈b,p.2∈rows
theorem WC.Hh{P:cC}{f:au}{vs:ae AV}{v:AV}(h:DW P f vs [] [(.ex v,[])]):WC P f vs [] λ v' m'=>v'=v/\m'=[]:=by
 obtain⟨a,m,⟨o,ho,gv,gm⟩,w⟩:=h
 obtain rfl:=be.mp ho
 rw[show a=v from gv,cZ.mp gm.len.symm] at w
 exact w
def PG(W:WK prog w)(X:BM->Prop)(hX:∀G G',dG G G'->X G->X G'):cC:=PV W X hX 20 false bR
theorem Rn{n:Nat}(U:UK W){a b:AV}{c:Int}{Vs:ae AV}(cl:∀f,eu f [a,b]=[a,b])(hl:0 < Vs.length)(N3:Builtin.Range.small 0 (Vs.length:Nat) 1=true)(h:J3 (PN W X hX false n) a b c Vs):qS (PN W X hX false (n+1)) 668 [a,b] Vs:=
 qS.le (P:=PV W X hX (2 * n+2) false (lS W X hX false n)) (Q:=PN W X hX false (n+1)) ⟨rfl,rfl,by show 2 * n+2<=2 * (n+1)+1; omega, .inl rfl,λ aa h=>h⟩ (Jo (W:=W) (X:=X) (hX:=hX) (d:=2 * n) (cB:=lS W X hX false n) U (qw W X hX false n) cl hl N3 h.1 h.2.1 h.2.2)
theorem acm{n:Nat}{vs:ae AV}{bl:AV}(hl:vs.length=4)(h:gY (λ K=>(kx (PN W X hX false n)).run ⟨fill dQ.aS vs,[]⟩ (iE λ v m=>K (v,m))) λ a=>∃r,N1 0 a.1 a.2=af r/\r.1=bl/\r.2=[]):
  WC (PV W X hX (2 * n+2) false (lS W X hX false n)) 675 vs [] λ v m=>v=bl/\m=[]:=by
 have d:=qv (W:=W) (X:=X) (hX:=hX) (j:=false) (cB:=lS W X hX false n) (d:=2 * n) (i:=35) (e:=fe 675 dQ ["frame","grid","scan","interval"] kx) (vs:=vs) (m:=[]) (I:=λ v m=>∃r,N1 0 v m=af r/\r.1=bl/\r.2=[]) rfl rfl hl h
 obtain⟨v,m,⟨rfl,rfl⟩,z⟩:=fm.fz (I':=λ v m=>v=bl/\m=[]) d λ v m ⟨r,e1,e2,e3⟩=>⟨r,e1,e2,e3⟩
 exact z
theorem PNG{n:Nat}(h:2 * n+1<=20):(PN W X hX false n).Le (PG W X hX):=⟨rfl,rfl,h, .inl rfl,λ aa h=>h⟩
theorem aa6{n:Nat}(h:2 * n+2<=20):(PV W X hX (2 * n+2) false (lS W X hX false n)).Le (PG W X hX):=⟨rfl,rfl,h, .inl rfl,λ aa h=>h⟩
theorem Yq(U:UK W){a wd iv c:Int}{two:aC}{pl:ae Int}{rv gv:AV}{R:ae (ae (ae (ae Int)))}{rows:ae (ae Int)}{bl:ae (ae (Int×ae Int))}{Vs:ae AV}(hG:m8 R gv)(hl:0 < Vs.length)(N3:Builtin.Range.small 0 (Vs.length:Nat) 1=true)
  (hu:∀dc ac s e,J3 (PN W X hX false 5) (jw a two wd) (jz pl dc ac s e) c Vs) (hi:∀dc ac s e,ivB (PN W X hX false 6) (jw a two wd) (jz pl dc ac s e) R iv Vs=af [(.ex (k8 bl),[])])
  (hw:∀dc ac s e,lS W X hX false 5 892 [.ex (jw a two wd), .ex (jz pl dc ac s e), .ex rv, .ex (.int iv)] []=af [(.ex (k8 bl),[])]) (hs:bl.map (·.map (·.1))∈oy pl) (hr:∀b∈bl,∀p∈b,p.2∈rows):JX (PG W X hX) (jw a two wd) pl iv rv gv rows bl:=by
 refine⟨λ dc ac s e=>?_,λ dc ac s e=>?_,hs,hr⟩
 ·have z:=WC.Hh (oO (vs:=[jw a two wd,jz pl dc ac s e,rv, .int iv]) (m:=[]) (hw dc ac s e) ⟨_,_,rfl,rfl,_,_,rfl,rfl,_,_,rfl,rfl,_,_,rfl,rfl,rfl⟩ GM.nil)
  exact z.up (PNG (by decide))
 ·have g:=Rn U (a:=jw a two wd) (b:=jz pl dc ac s e) (λ f=>by cases two<;>rfl) hl N3 (hu dc ac s e)
  have z:=UM (qw W X hX false 6) (Cf:=779) (kf:=[23,24,25,26,27,9]) (Cs:=847) (ks:=[30,31,32,33,11,34,4]) (gv:=gv) (iv:=iv) g hG (hi dc ac s e)
  exact(acm rfl z).up (aa6 (by decide))
end
noncomputable def uh(f:Int->Int):Int->ae Int->Int
 |b,[]=>b
 |b,v::r=>uh f (aX (decide (f v < f b)) v b) r
def Tl(P:cC)(lf:au)(ks:ae (ae Int))(us:ae AV)(sz:Int):Prop:=∀M i,bM M i=af (.bG ks us)->WC P lf [.own i] M λ v m=>v= .int sz/\∃qk r,m=bz M i (.bG ks qk)++r
theorem Mu{α β:Type}{x:aq α}{a:α}{f:α->aq β}(e:x=af a):ob x f=f a:=e▸rfl
theorem z9{n:Nat}{fg:ae aC}{K:Fl->St->Prop}{f f':Fl}{σ:St}{l:ae AV}{m:ae AO}(e1:Vr n σ.mem f=af f')(e2:i2 (lW n σ.mem 12) (XS fg σ.loc)=af l)(e3:i2 (yj n σ.mem 12) (Rf n σ.mem)=af m)(h:K f' ⟨l,m⟩):Lc n fg K f σ:=
 Hn (a:=(f',⟨l,m⟩)) ((Mu e1).trans ((Mu e2).trans (Mu e3))) h
theorem mu{set:AV->St->(St->Prop)->Prop}{b:Body}{n k:Nat}{v:AV}{r:ae AV}{σ:St}{K:Fl->St->Prop}(h:set v σ λ aI=>b aI λ f aV=>sd f aV (λ dC=>jq set b n (.fz (k+1) r) dC K) K):jq set b (n+1) (.fz k (v::r)) σ K:=h
theorem sD{set:AV->St->(St->Prop)->Prop}{b:Body}{n k:Nat}{σ:St}{K:Fl->St->Prop}(h:K .d8 σ):jq set b (n+1) (.fz k []) σ K:=h
theorem js{σ:St}{A:St->Prop}{B:Fl->St->Prop}(h:A σ):sd .d8 σ A B:=h
noncomputable def Pre(k s:Int)(ks:ae (ae Int))(us:ae AV):Prop:=(ks=[]/\us=[])\/(k=0/\s=1/\ks=[[0,0]]/\∃c,us=[.int c])
theorem Pre.u{k s:Int}{ks:ae (ae Int)}{us:ae AV}{Q:Int->Int->ae (ae Int)->ae AV->Prop}(h:Pre k s ks us)(h1:∀k s,Q k s [] [])(h2:∀c,Q 0 1 [[0,0]] [.int c]):Q k s ks us:=
 h.elim (λ z=>z.1▸z.2▸h1 k s) λ z=>z.1▸z.2.1▸z.2.2.1▸z.2.2.2.elim λ c e=>e▸h2 c
theorem Pre.res{k s:Int}{ks:ae (ae Int)}{us:ae AV}(h:Pre k s ks us)(n:Nat)(m:ae AO):yj n m 12 (.bG ks us)=af (.bG ks us):=
 h.u (Q:=λ k s ks us=>yj n m 12 (.bG ks us)=af (.bG ks us)) (λ aa aa=>rfl) λ aa=>rfl
theorem Pre.Zl{k s x:Int}{ks:ae (ae Int)}{us:ae AV}(h:Pre k s ks us)(n:Nat)(m:ae AO):yj n m 12 (.bG (ks++[[k,s]]) (us++[.int x]))=af (.bG (ks++[[k,s]]) (us++[.int x])):=
 h.u (Q:=λ k s ks us=>yj n m 12 (.bG (ks++[[k,s]]) (us++[.int x]))=af (.bG (ks++[[k,s]]) (us++[.int x]))) (λ aa aa=>rfl) λ aa=>rfl
noncomputable def Bg(f:Int->Int)(x:aq Int):AV:=match x with
 |none=> .none
 |some b=> .tup [.int b, .int (f b)]
noncomputable def BQ(f:Int->Int)(x:aq Int)(v:Int):aq Int:=match x with
 |none=>af v
 |some b=>af (aX (decide (f v < f b)) v b)
theorem wc(f:Int->Int):∀(r:ae Int) (b:Int),r.foldl (BQ f) (af b)=af (uh f b r)
 |[],_=>rfl
 |v::r,b=>wc f r _
noncomputable def Bc(k s:Int)(vals:ae Int)(lf:au)(fd a5 a6 a7:AV):ae AV:=[.own 0, .tup [.int k, .int s], .row vals, .fn lf,fd,a5,a6,a7]
section
variable{prog:aK}{w:bw}{W:WK prog w}{X:BM->Prop}{hX:∀G G',dG G G'->X G->X G'}{j:aC}{cB:xV}{d:Nat}{k s v:Int}{f:Int->Int}{vals:ae Int}{ks:ae (ae Int)}{us:ae AV}{lf:au}
def Xp(P:cC)(loc:ae AV)(m:ae AO)(K:Fl->St->Prop):Prop:=
 (sIf (tOr (Rc (eZ 4 p0) .Is (zw 0 p0) p0) (Rc (eZ 7 p0) .Lt (FO (eZ 4 p0) (ym 1 p0) p0) p0) p0) (iH (M0 4 p0 (Wl (iS (eZ 5 p0) (iS (eZ 7 p0) qZ)) 0 p0) p0) lK) lK p0:SX P d6).run ⟨loc,m⟩ λ f σ=>sd f σ (λ σ=>Lc 1 (GI.getD 0 []) K .d8 σ) (Lc 1 (GI.getD 0 []) K)
theorem abl{qk:ae AV}{r:ae AO}{K:Fl->St->Prop}:Xp (PV W X hX (d+1) j cB) (Bc k s vals lf (Bg f none) (.int v) (.own 1) (.int (f v))) ([.bG ks us, .bG (ks++[[k,s]]) qk]++r) K=Lc 1 (GI.getD 0 []) K .d8 ⟨Bc k s vals lf (Bg f (af v)) (.int v) (.own 1) (.int (f v)),[.bG ks us, .bG (ks++[[k,s]]) qk]++r⟩:=by kernel_rfl
theorem abm{qk:ae AV}{r:ae AO}{K:Fl->St->Prop}{b:Int}:Xp (PV W X hX (d+1) j cB) (Bc k s vals lf (Bg f (af b)) (.int v) (.own 1) (.int (f v))) ([.bG ks us, .bG (ks++[[k,s]]) qk]++r) K=aX (decide (f v < f b)) (Lc 1 (GI.getD 0 []) K .d8 ⟨Bc k s vals lf (Bg f (af v)) (.int v) (.own 1) (.int (f v)),[.bG ks us, .bG (ks++[[k,s]]) qk]++r⟩) (Lc 1 (GI.getD 0 []) K .d8 ⟨Bc k s vals lf (Bg f (af b)) (.int v) (.own 1) (.int (f v)),[.bG ks us, .bG (ks++[[k,s]]) qk]++r⟩):=by kernel_rfl
theorem Io(sG:Pre k s ks us){x:aq Int}{o7:AV}(H:Tl (PV W X hX (d+1) j cB) lf (ks++[[k,s]]) (us++[.int v]) (f v))(K:Fl->St->Prop)
  (hK:K .d8 ⟨Bc k s vals lf (Bg f (BQ f x v)) (.int v) .undef (.int (f v)),[.bG ks us]⟩):(ii (PV W X hX (d+1) j cB)).run ⟨Bc k s vals lf (Bg f x) (.int v) .undef o7,[.bG ks us]⟩ K:=
 have e:(ii (PV W X hX (d+1) j cB)).run ⟨Bc k s vals lf (Bg f x) (.int v) .undef o7,[.bG ks us]⟩ K=WC (PV W X hX (d+1) j cB) lf [.own 1] [.bG ks us, .bG (ks++[[k,s]]) (us++[.int v])] λ u m=>Xp (PV W X hX (d+1) j cB) (Bc k s vals lf (Bg f x) (.int v) (.own 1) u) m K:=
  sG.u (Q:=λ k s ks us=>(ii (PV W X hX (d+1) j cB)).run ⟨Bc k s vals lf (Bg f x) (.int v) .undef o7,[.bG ks us]⟩ K=WC (PV W X hX (d+1) j cB) lf [.own 1] [.bG ks us, .bG (ks++[[k,s]]) (us++[.int v])] λ u m=>Xp (PV W X hX (d+1) j cB) (Bc k s vals lf (Bg f x) (.int v) (.own 1) u) m K) (λ k s=>by kernel_rfl) λ c=>by kernel_rfl
 have fin (y:aq Int) (qk:ae AV) (r:ae AO) (h:K .d8 ⟨Bc k s vals lf (Bg f y) (.int v) .undef (.int (f v)),[.bG ks us]⟩):Lc 1 (GI.getD 0 []) K .d8 ⟨Bc k s vals lf (Bg f y) (.int v) (.own 1) (.int (f v)),[.bG ks us, .bG (ks++[[k,s]]) qk]++r⟩:=
  z9 rfl (by cases y<;>rfl) (bX (sG.res _ _) rfl) h
 have key (qk:ae AV) (r:ae AO):Xp (PV W X hX (d+1) j cB) (Bc k s vals lf (Bg f x) (.int v) (.own 1) (.int (f v))) ([.bG ks us, .bG (ks++[[k,s]]) qk]++r) K:=by
  cases x with
  |none=>exact nf abl (fin (af v) qk r hK)
  |some b=>
   refine nf abm ?_
   rw[show BQ f (af b) v=af (aX (decide (f v < f b)) v b) from rfl] at hK
   cases e:decide (f v < f b) with
   |true=>rw[e] at hK; exact fin (af v) qk r hK
   |false=>rw[e] at hK; exact fin (af b) qk r hK
 nf e ((H _ 1 rfl).mono λ u m z=>z.2.elim λ qk y=>y.elim λ r em=>z.1.symm▸em.symm▸key qk r)
theorem CQ{P:cC}{v:AV}{σ:St}{K:St->Prop}(h:K (σ.set 5 v)):(lU P).set v σ K:=h
theorem yz(sG:Pre k s ks us){K:Fl->St->Prop}:∀(l:ae Int) (x:aq Int) (i:Nat) (o5 o7:AV),(∀v∈l,Tl (PV W X hX (d+1) j cB) lf (ks++[[k,s]]) (us++[.int v]) (f v))->
  (∀o5 o7,K .d8 ⟨Bc k s vals lf (Bg f (l.foldl (BQ f) x)) o5 .undef o7,[.bG ks us]⟩)->jq (lU (PV W X hX (d+1) j cB)).set (ii (PV W X hX (d+1) j cB)).run (l.length+1) (.fz i (bW l)) ⟨Bc k s vals lf (Bg f x) o5 .undef o7,[.bG ks us]⟩ K
 |[],x,i,o5,o7,_,hK=>sD (hK o5 o7)
 |v::r,x,i,o5,o7,H,hK=>mu (CQ (Io sG (H v aR) _ (js (yz sG r (BQ f x v) (i+1) _ _ (λ y hy=>H y (aP _ hy)) hK))))
theorem Em{v0:Int}{r:ae Int}(sG:Pre k s ks us)(H:∀v∈v0::r,Tl (PV W X hX (d+1) j cB) lf (ks++[[k,s]]) (us++[.int v]) (f v)):
  WC (PV W X hX (d+2) j cB) 56 [.own 0, .tup [.int k, .int s], .row (v0::r), .fn lf] [.bG ks us] λ v m=>v= .tup [.int (uh f v0 r), .int (f (uh f v0 r))]/\m=[.bG ks us]:=
 (qv (W:=W) (X:=X) (hX:=hX) (j:=j) (cB:=cB) (d:=d) (i:=4) (e:=fe 56 d6 ["conditioning","key","values","size_of"] sx) (vs:=[.own 0, .tup [.int k, .int s], .row (v0::r), .fn lf]) (m:=[.bG ks us]) (I:=λ v m=>v= .tup [.int (uh f v0 r), .int (f (uh f v0 r))]/\m=[.bG ks us]) rfl rfl rfl
  ⟨(.tup [.int (uh f v0 r), .int (f (uh f v0 r))],[.bG ks us]),⟨rfl,rfl⟩,λ K hK=>nf (B:=∃N,jq (lU (PV W X hX (d+1) j cB)).set (ii (PV W X hX (d+1) j cB)).run N (.fz 0 (bW (v0::r))) ⟨Bc k s (v0::r) lf (Bg f none) .undef .undef .undef,[.bG ks us]⟩ (pI (iH (Ft (eZ 4 p0) p0) lK:SS (PV W X hX (d+1) j cB) d6) (iE λ v m=>K (v,m)))) (by kernel_rfl)
   ⟨_,yz sG (v0::r) none 0 .undef .undef H λ o5 o7=>(ah (λ x=>pI (iH (Ft (eZ 4 p0) p0) lK:SS (PV W X hX (d+1) j cB) d6) (iE λ v m=>K (v,m)) .d8 ⟨Bc k s (v0::r) lf (Bg f x) o5 .undef o7,[.bG ks us]⟩) (wc f r v0)).mpr hK⟩⟩).elim λ v z=>z.elim λ m z=>z.1.1▸z.1.2▸z.2
end
theorem WC.anyM{P:cC}{f:au}{vs:ae AV}{v0:AV}(h:WC P f vs [] λ v m=>v=v0/\m=[])(c1:∀f,eu f vs=vs)(c2:∀f,ew f v0=v0)(M:ae AO):WC P f vs M λ v m=>v=v0/\m=M:=by
 refine WC.FM [] h (c1 _).symm rfl rfl rfl ⟨c2 _,?_⟩
 show M++[]=M
 exact bS M
noncomputable def rV:ae Int:=[16,0,17,32,33,34,48,49,50,51,64,65,66,67,68,80,81,82,83,84,85]
noncomputable def OB:ae Int:=[1,2,3]
def tN(k:ae Int):AV:= .tup (bW k)
section
variable{prog:aK}{w:bw}{W:WK prog w}{X:BM->Prop}{hX:∀G G',dG G G'->X G->X G'}{j:aC}{cB:xV}{d:Nat}{pl dc ac:ae Int}{a b:Int}
theorem r28:lS W X hX false 1 28 [.ex (.int 5)] []=af [(.ex (.row rV),[])]:=by kernel_rfl
theorem r35:lS W X hX false 1 35 [.ex (.int 2)] []=af [(.ex (.row OB),[])]:=by kernel_rfl
theorem r61:((E1 pl ac).map λ e=>lS W X hX false 1 61 [.ex e.sc] [])=(E1 pl ac).map λ e=>af [(.ex (.lst (e.ks.map tN)),[])]:=by kernel_rfl
theorem Wo{n:Nat}(h:2 * n<=d):(PN W X hX false n).Le (PV W X hX (d+1) j cB):=⟨rfl,rfl,by show 2 * n+1<=d+1; omega, .inl rfl,λ aa h=>h⟩
theorem c28(hd:2<=d)(M:ae AO):WC (PV W X hX (d+1) j cB) 28 [.int 5] M λ v m=>v= .row rV/\m=M:=
 WC.anyM ((WC.Hh (oO (vs:=[.int 5]) (m:=[]) (r28 (W:=W) (X:=X) (hX:=hX)) ⟨_,_,rfl,rfl,rfl⟩ GM.nil)).up (Wo (by omega))) (λ aa=>rfl) (λ aa=>rfl) M
theorem c35(hd:2<=d)(M:ae AO):WC (PV W X hX (d+1) j cB) 35 [.int 2] M λ v m=>v= .row OB/\m=M:=
 WC.anyM ((WC.Hh (oO (vs:=[.int 2]) (m:=[]) (r35 (W:=W) (X:=X) (hX:=hX)) ⟨_,_,rfl,rfl,rfl⟩ GM.nil)).up (Wo (by omega))) (λ aa=>rfl) (λ aa=>rfl) M
theorem c61{sc:AV}{l:ae AV}(h:lS W X hX false 1 61 [.ex sc] []=af [(.ex (.lst l),[])])(c1:∀f,ew f sc=sc)(c2:∀f,eu f l=l)(hd:2<=d)(M:ae AO):WC (PV W X hX (d+1) j cB) 61 [sc] M λ v m=>v= .lst l/\m=M:=
 WC.anyM ((WC.Hh (oO (vs:=[sc]) (m:=[]) h ⟨_,_,rfl,rfl,rfl⟩ GM.nil)).up (Wo (by omega))) (λ f=>by show[ew f sc]=_; rw[c1]) (λ f=>by show AV.lst (eu f l)=_; rw[c2]) M
def KC(pl dc ac:ae Int)(a b:Int)(lf:au)(k s:Int)(o:AV):ae AV:=[jz pl dc ac a b, .int 2, .int 5, .fn lf, .own 0,tN [k,s],o]
def Xr(K:Fl->St->Prop):Fl->St->Prop:=Lc 1 (GI.getD 1 []) K
def chT:CS cn:=vg 19 cn (jh 1 (g_ (nW (g_ d4) 1))) (f8 / 128 ^ 17)
def ch2(P:cC)(loc:ae AV)(m:ae AO)(K:Fl->St->Prop):Prop:=(chT P).run ⟨loc,m⟩ (Xr K)
def TI(k s:Int)(loc:ae AV)(u:AV)(m:ae AO)(K:Fl->St->Prop):Prop:=IH u (.int 0) m λ v=>Jh (.own 0) (tN [k,s]) v ⟨loc,m⟩ λ σ=>Xr K .d8 σ
theorem Pre.TI{k s c cc:Int}{ks:ae (ae Int)}{us:ae AV}(h:Pre k s ks us){loc:ae AV}{K:Fl->St->Prop}:Mine.TI k s loc (.tup [.int c, .int cc]) [.bG ks us, .lst []] K=Xr K .d8 ⟨loc,[.bG (ks++[[k,s]]) (us++[AV.int c]), .lst []]⟩:=
 h.u (Q:=λ k s ks us=>Mine.TI k s loc (.tup [.int c, .int cc]) [.bG ks us, .lst []] K=Xr K .d8 ⟨loc,[.bG (ks++[[k,s]]) (us++[AV.int c]), .lst []]⟩) (λ aa aa=>by kernel_rfl) λ aa=>by kernel_rfl
theorem R5{lf:au}{k s c:Int}{ks:ae (ae Int)}{us:ae AV}(sG:Pre k s ks us){v0:Int}{r:ae Int}{cc:Int}
  (H:WC (PV W X hX (d+1) j cB) 56 [.own 0, .tup [.int k, .int s], .row (v0::r), .fn lf] [.bG ks us] λ v m=>v= .tup [.int c, .int cc]/\m=[.bG ks us]) (K:Fl->St->Prop)
  (hK:K .d8 ⟨KC pl dc ac a b lf k s (.row (v0::r)),[.bG (ks++[[k,s]]) (us++[.int c])]⟩):ch2 (PV W X hX (d+1) j cB) (KC pl dc ac a b lf k s (.row (v0::r))) [.bG ks us] K:=
 nf (B:=ra .N8 (.row (v0::r)) (.own 1) [.bG ks us, .lst []] λ b'=>aX b' (WC (PV W X hX (d+1) j cB) 56 [.own 0, .tup [.int k, .int s], .row (v0::r), .fn lf] [.bG ks us, .lst []] λ u m=>TI k s (KC pl dc ac a b lf k s (.row (v0::r))) u m K) (Xr K .d8 ⟨KC pl dc ac a b lf k s (.row (v0::r)),[.bG ks us, .lst []]⟩)) (by kernel_rfl)
  (Or.inr ⟨cy _,WC.FM (M:=[.bG ks us, .lst []]) [0] H rfl rfl rfl (bX (by
   refine sG.u (Q:=λ k s ks us=>bM [.bG ks us, .lst []] 0=af (lq (eU [0] 2) (.bG ks us))) (λ aa aa=>rfl) λ aa=>rfl) rfl) (sG.u (Q:=λ k s ks us=>TI k s (KC pl dc ac a b lf k s (.row (v0::r))) (.tup [.int c, .int cc]) [.bG ks us, .lst []] K->TI k s (KC pl dc ac a b lf k s (.row (v0::r))) (ew (eU [0] 2) (.tup [.int c, .int cc])) (upd (eU [0] 2) [0] [.bG ks us] [.bG ks us, .lst []]) K) (λ aa aa h=>h) (λ aa h=>h)
    (nf sG.TI (z9 (l:=KC pl dc ac a b lf k s (.row (v0::r))) rfl rfl (bX (sG.Zl _ _) rfl) hK)))⟩)
theorem p5(hd:2<=d){lf:au}{k s c:Int}{ks:ae (ae Int)}{us:ae AV}(sG:Pre k s ks us){vals:ae Int}(hk:(k=0/\vals=rV)\/(k=1/\vals=OB)){cc:Int}
  (H:WC (PV W X hX (d+1) j cB) 56 [.own 0, .tup [.int k, .int s], .row vals, .fn lf] [.bG ks us] λ v m=>v= .tup [.int c, .int cc]/\m=[.bG ks us]) {ov:AV} (K:Fl->St->Prop)
  (hK:K .d8 ⟨KC pl dc ac a b lf k s (.row vals),[.bG (ks++[[k,s]]) (us++[.int c])]⟩):
  (gO (PV W X hX (d+1) j cB)).run ⟨KC pl dc ac a b lf k s ov,[.bG ks us]⟩ K:=by
 rcases hk with⟨rfl,rfl⟩|⟨rfl,rfl⟩
 ·exact nf (B:=WC (PV W X hX (d+1) j cB) 28 [.int 5] [.bG ks us] λ v m=>ch2 (PV W X hX (d+1) j cB) (KC pl dc ac a b lf 0 s v) m K) (by kernel_rfl) ((c28 hd _).known (R5 sG H K hK))
 ·exact nf (B:=WC (PV W X hX (d+1) j cB) 35 [.int 2] [.bG ks us] λ v m=>ch2 (PV W X hX (d+1) j cB) (KC pl dc ac a b lf 1 s v) m K) (by kernel_rfl) ((c35 hd _).known (R5 sG H K hK))
theorem nO{P:cC}{v:AV}{σ:St}{K:St->Prop}(h:K (σ.set 5 v)):(ff P).set v σ K:=h
theorem Ul{ks:ae (ae Int)}{us:ae AV}{rest:ae AO}(hI:i2 (lW 0 (.bG ks us::rest) 11) us=af us):N1 0 (.own 0) (.bG ks us::rest)=af (.bG ks us,[]):=
 ah (ob · λ t=>ob (i2 (yj 0 (.bG ks us::rest) 12) (Rf 0 (.bG ks us::rest))) λ m'=>af (t,m')) (ah (ob · λ l=>af (AV.bG ks l)) hI:lW 0 (.bG ks us::rest) 12 (.own 0)=af (.bG ks us))
theorem AA{P:cC}{f:au}{vs:ae AV}{ks:ae (ae Int)}{us:ae AV}{rest:ae AO}(hI:i2 (lW 0 (.bG ks us::rest) 11) us=af us)(h:WC P f vs [] λ v m=>v= .own 0/\m= .bG ks us::rest):WC P f vs [] λ v m=>v= .bG ks us/\m=[]:=
 WC.fz (h.mono λ v m q=>⟨(.bG ks us,[]),q.1.symm▸q.2.symm▸Ul hI,rfl,rfl⟩)
theorem Ez{P:cC}{vs:ae AV}{ks:ae (ae Int)}{us:ae AV}(hI:i2 (lW 0 [.bG ks us] 11) us=af us)(h:fm P 68 vs [] λ v m=>v= .own 0/\m=[.bG ks us]):WC P 68 vs [] λ v m=>v= .bG ks us/\m=[]:=
 AA hI (h.elim λ v z=>z.elim λ m z=>z.2.mono λ v' m' q=>⟨q.1.trans z.1.1,q.2.trans z.1.2⟩)
theorem KD(hd:1<=d){lf:au}{ks:ae (ae Int)}{cs:ae AV}(X2:lS W X hX false 1 61 [.ex (jz pl dc ac a b)] []=af [(.ex (.lst (ks.map tN)),[])])(hr:∀f,eu f (ks.map tN)=ks.map tN)(hI:i2 (lW 0 [.bG ks cs] 11) cs=af cs)
  (h:∀K:Fl->St->Prop,(∀o5 o6,K .d8 ⟨[jz pl dc ac a b, .int 2, .int 5, .fn lf, .own 0,o5,o6],[.bG ks cs]⟩)->∃N,jq (ff (PV W X hX (d+2) j cB)).set (gO (PV W X hX (d+2) j cB)).run N (.fz 0 (ks.map tN)) ⟨[jz pl dc ac a b, .int 2, .int 5, .fn lf, .own 0, .undef, .undef],[.bG [] []]⟩ K):
  WC (PV W X hX (d+3) j cB) 68 [jz pl dc ac a b, .int 2, .int 5, .fn lf] [] λ v m=>v= .bG ks cs/\m=[]:=
 Ez hI (qv (W:=W) (X:=X) (hX:=hX) (j:=j) (cB:=cB) (d:=d+1) (i:=6) (e:=fe 68 cn ["scan","n","most","size_of"] k7) rfl rfl rfl ⟨(.own 0,[.bG ks cs]),⟨rfl,rfl⟩,λ K hK=>
  nf (B:=WC (PV W X hX (d+2) j cB) 61 [jz pl dc ac a b] [.bG [] []] λ v m=>Uj (ff (PV W X hX (d+2) j cB)).lz (ff (PV W X hX (d+2) j cB)).set (gO (PV W X hX (d+2) j cB)).run v ⟨[jz pl dc ac a b, .int 2, .int 5, .fn lf, .own 0, .undef, .undef],m⟩
    (pI (iH (Ft (eZ 4 p0) p0) lK:SS (PV W X hX (d+2) j cB) cn) (iE λ v m=>K (v,m)))) (by kernel_rfl) ((c61 (d:=d+1) X2 (λ aa=>rfl) hr (eH hd) _).known (h _ λ aa aa=>hK))⟩)
theorem OY(hd:1<=d){lf:au}{k s:Int}{vals:ae Int}(hk:(k=0/\vals=rV)\/(k=1/\vals=OB)){v0:Int}{r:ae Int}(hv:vals=v0::r){f:Int->Int}(X2:lS W X hX false 1 61 [.ex (jz pl dc ac a b)] []=af [(.ex (.lst [tN [k,s]]),[])])
  (H:∀v∈vals,Tl (PV W X hX (d+1) j cB) lf [[k,s]] [.int v] (f v)):WC (PV W X hX (d+3) j cB) 68 [jz pl dc ac a b, .int 2, .int 5, .fn lf] [] λ v m=>v= .bG [[k,s]] [.int (uh f v0 r)]/\m=[]:=by
 subst hv
 exact KD (ks:=[[k,s]]) hd X2 (λ aa=>rfl) rfl λ K hK=>⟨2,mu (nO (p5 (d:=d+1) (eH hd) (ks:=[]) (us:=[]) (.inl ⟨rfl,rfl⟩) hk (Em (d:=d) (.inl ⟨rfl,rfl⟩) H) _ (js (sD (hK _ _)))))⟩
theorem OZ(hd:1<=d){lf:au}{f:Int->Int}{g:Int->Int->Int}(X2:lS W X hX false 1 61 [.ex (jz pl dc ac a b)] []=af [(.ex (.lst [tN [0,0],tN [0,1]]),[])])
  (H:∀v∈rV,Tl (PV W X hX (d+1) j cB) lf [[0,0]] [.int v] (f v)) (H2:∀u∈rV,∀v∈rV,Tl (PV W X hX (d+1) j cB) lf [[0,0],[0,1]] [.int u, .int v] (g u v)) {c:Int} (hc:c=uh f 16 rV.tail) (hm:c∈rV):WC (PV W X hX (d+3) j cB) 68 [jz pl dc ac a b, .int 2, .int 5, .fn lf] [] λ v m=>v= .bG [[0,0],[0,1]] [.int c, .int (uh (g c) 16 rV.tail)]/\m=[]:=by
 have b1:=Em (d:=d) (j:=j) (cB:=cB) (W:=W) (X:=X) (hX:=hX) (lf:=lf) (k:=0) (s:=0) (f:=f) (v0:=16) (r:=rV.tail) (ks:=[]) (us:=[]) (.inl ⟨rfl,rfl⟩) H
 rw[← hc] at b1
 exact KD (ks:=[[0,0],[0,1]]) hd X2 (λ aa=>rfl) rfl λ K hK=>⟨3,mu (nO (p5 (d:=d+1) (eH hd) (ks:=[]) (us:=[]) (.inl ⟨rfl,rfl⟩) (.inl ⟨rfl,rfl⟩) b1 _ (js (mu (nO (p5 (d:=d+1) (eH hd) (ks:=[[0,0]]) (us:=[.int c]) (.inr ⟨rfl,rfl,rfl,c,rfl⟩) (.inl ⟨rfl,rfl⟩) (Em (d:=d) (f:=g c) (v0:=16) (r:=rV.tail) (.inr ⟨rfl,rfl,rfl,c,rfl⟩) (H2 c hm)) _ (js (sD (hK _ _)))))))))⟩
theorem O4{b:aC}{x y:Int}{r:ae Int}:aX b x y∈y::x::r:=by
 cases b
 ·exact .head _
 ·exact .tail _ (.head _)
theorem zQ(f:Int->Int):∀(r:ae Int) (b:Int),uh f b r∈b::r
 |[],b=> .head _
 |v::r,b=>(bQ.mp (zQ f r (aX (decide (f v < f b)) v b))).elim (λ e=>(ah (·∈b::v::r) e).mpr O4) λ h=> .tail _ (.tail _ h)
end
section
variable{prog:aK}{w:bw}{W:WK prog w}{X:BM->Prop}{hX:∀G G',dG G G'->X G->X G'}{d:Nat}{cB:xV}{pl dc ac:ae Int}{a b:Int}
theorem gZ.up{P Q:cC}(x:P.Le Q){IV sc:AV}{ks:ae (ae Int)}{us:ae AV}{sz:Int}(h:gZ P IV sc ks us sz):gZ Q IV sc ks us sz:=by
 obtain⟨hi,v,xJ,qk,r0,r1,q1,l1,q2,l2,z1,z2⟩:=h
 exact⟨hi,v,xJ,qk,r0,r1,q1,l1,q2,l2,z1.up x,z2.up x⟩
def Yx(prog:aK)(w:bw):aB:=(BN (P0 prog w)).bA
theorem G3(P:cC):(BN P).bA=Yx prog w:=by kernel_rfl
theorem P2{j:aC}:(BN (PV W X hX (d+1) j cB)).ch=true:=by kernel_rfl
def XL(prog:aK)(w:bw)(X:BM->Prop)(lf:au)(iv sc:AV):BM->Prop:=λ G=>X G/\ud (Yx prog w) lf iv (.int 2) sc G
theorem yw{lf:au}{iv sc:AV}(hX:∀G G',dG G G'->X G->X G'):∀G G',dG G G'->XL prog w X lf iv sc G->XL prog w X lf iv sc G':=λ G G' g h=>⟨hX G G' g h.1,ud.up G G' g h.2⟩
theorem Gq(f:Nat->Nat):∀l:ae (Int×ae Int),eu f (l.map qW)=l.map qW
 |[]=>rfl
 |p::r=>by show AV.tup [.int p.1, .row p.2]::eu f (r.map qW)=_; rw[Gq f r]; rfl
theorem r5(f:Nat->Nat)(l:ae (ae (Int×ae Int))):ew f (k8 l)=k8 l:=by
 have h:∀l:ae (ae (Int×ae Int)),eu f (l.map λ b=>AV.lst (b.map qW))=l.map λ b=>AV.lst (b.map qW):=by
  intro l
  induction l with
  |nil=>rfl
  |cons b r ih=>show AV.lst (eu f (b.map qW))::eu f _=_; rw[Gq,ih]; rfl
 show AV.lst (eu f _)=_
 rw[h]; rfl
theorem E3{lf:au}{bl:ae (ae (Int×ae Int))}{ks:ae (ae Int)}{us:ae AV}{sz:Int}(h:gZ (PV W (XL prog w X lf (k8 bl) (jz pl dc ac a b)) (yw hX) (d+1) true cB) (k8 bl) (jz pl dc ac a b) ks us sz):
  Tl (PV W (XL prog w X lf (k8 bl) (jz pl dc ac a b)) (yw hX) (d+2) true cB) lf ks us sz:=λ M i hM=>by
 obtain⟨k,xJ,qk,r0,r1,_,_,_,_,w1,w2⟩:=h.use hM (λ aa=>rfl) (λ f=>r5 f bl)
 refine WC.lam (P:=PV W (XL prog w X lf (k8 bl) (jz pl dc ac a b)) (yw hX) (d+1) true cB) (b:=BN _) (λ G hG=>by rw[G3 (prog:=prog) (w:=w)]; exact hG.2.2) P2 ?_
 conv=>whnf
 refine WC.mono w1 λ v m z=>?_
 obtain⟨rfl,rfl⟩:=z
 conv=>whnf
 refine WC.mono w2 λ v m z=>?_
 obtain⟨rfl,rfl⟩:=z
 exact⟨rfl,qk,r1,rfl⟩
theorem B8{j:aC}{i:Nat}{e:lg}(h:FL[i]?=af e)(h0:e.dm=0){vs:ae AV}{m:ae AO}{K:AV->ae AO->Prop}(hl:vs.length=e.xs.length)(r:(e.b (PV W X hX (d+1) j cB)).run ⟨fill e.ct.aS vs,m⟩ (iE K)):
  pg (PV W X hX (d+2) j cB) e.f vs m K:=by
 have he:=dB h
 obtain⟨dv,h1,h2⟩:=zX W (X:=X) (hX:=hX) (d:=d+1) (j:=j) (cB:=cB) (cD (FT++FJ) he)
 have hd:=h1 (λ aa=>none) []
 rw[h0] at hd
 have hd:dv=[]:=hd
 subst hd
 refine pg.fn (P:=PV W X hX (d+1) j cB) h2 (da:=[]) (λ aa aa=>bJ.nil) (aY.mp (Tf W) e he) (by simpa using hl) ?_
 rw[bS]
 exact r
theorem UU{lf:au}{iv sc:AV}:(PV W (XL prog w X lf iv sc) (yw hX) 23 true bR).Le ((PV W X hX 24 true bR).lam (BN (PV W X hX 24 true bR)).bA lf iv (.int 2) sc):=
 ⟨rfl,rfl,by show 23<=24; decide, .inr rfl,λ G h=>⟨h.1.1,h.1.2,by have h2:=h.2; rw[G3 (prog:=prog) (w:=w)] at h2; exact h2⟩⟩
theorem PGU{n:Nat}(h:20<=n):(PG W X hX).Le (PV W X hX n true cB):=⟨rfl,rfl,h, .inl rfl,λ aa h=>h⟩
theorem Je{fa wd iv:Int}{two:aC}{rv gv:AV}{R:ae (ae (ae (ae Int)))}{rows:ae (ae Int)}{bl:ae (ae (Int×ae Int))}(hG:m8 R gv)(h:JX (PG W X hX) (jw fa two wd) pl iv rv gv rows bl){ks:ae (ae Int)}{us:ae AV}(hi:tg us)
  (H:∀lf,WC (PV W (XL prog w X lf (k8 bl) (jz pl dc ac a b)) (yw hX) 23 true bR) 68 [jz pl dc ac a b, .int 2, .int 5, .fn lf] [] λ v m=>v= .bG ks us/\m=[]):
  pg (PV W X hX 25 true bR) 682 [jw fa two wd,gv,jz pl dc ac a b, .int iv] [.tab] λ v m=>v= .bG ks us/\m=[.tab]:=by
 refine B8 (d:=23) (i:=0) (e:=fe 682 gG ["frame","grid","scan","interval"] l8) rfl rfl rfl ?_
 obtain⟨ps,rfl,PM⟩:=id hG
 conv=>whnf
 refine WC.mono (WC.anyM ((h.own dc ac a b).up (PGU (by decide))) (λ f=>?_) (λ f=>r5 f bl) [.tab]) λ v m z=>?_
 ·show[ew f (jw fa two wd),AV.inst 812 [28,29] [.int 4, .lst (eu f ps)],ew f (jz pl dc ac a b), .int iv]=_
  rw[PM.eU]
  cases two<;>rfl
 obtain⟨rfl,rfl⟩:=z
 conv=>whnf
 refine⟨jz pl dc ac a b, .int 2,k8 bl,ks,us,⟨⟨rfl,rfl,rfl⟩,⟨(λ e=>nomatch e),(λ e=>nomatch e),(λ e=>nomatch e)⟩,⟨λ f=>r5 f bl,λ aa=>rfl,λ aa=>rfl⟩,hi,rfl,λ lf=>(H lf).up UU⟩,?_⟩
 exact⟨rfl,rfl⟩
end
def Wu:lg:=fe 897 cN ["scan","intervals"] h_
def Wt:lg:=fe 902 dL ["script"] v_
structure LK{prog:aK}{w:bw}(W:WK prog w):Prop where
 w1:B7 W.K Wu=true
 w2:(fdOf W.K 897).body=fX (h_ (P0 prog w)).bA
 l1:B7 W.K Wt=true
 l2:(fdOf W.K 902).body=fX (v_ (P0 prog w)).bA
section
variable{prog:aK}{w:bw}{W:WK prog w}{X:BM->Prop}{hX:∀G G',dG G G'->X G->X G'}{d:Nat}{j:aC}{cB:xV}
theorem adw:RB ["scan","intervals"]:=λ fd vs=>by kernel_rfl
theorem acs:RB ["script"]:=λ fd vs=>by kernel_rfl
theorem Z5(P Q:cC):(h_ P).bA=(h_ Q).bA:=by kernel_rfl
theorem Yw(P Q:cC):(v_ P).bA=(v_ Q).bA:=by kernel_rfl
theorem Z4:(h_ (PV W X hX (d+1) true cB)).ch=true:=by kernel_rfl
theorem Yv:(v_ (PV W X hX (d+1) true cB)).ch=true:=by kernel_rfl
theorem xy(L:LK W){vs:ae AV}{m:ae AO}{K:AV->ae AO->Prop}(hl:vs.length=2)(r:(h_ (PV W X hX (d+1) true cB)).run ⟨fill cN.aS vs,m⟩ (iE K)):
  WC (PV W X hX (d+2) true cB) 897 vs m K:=by
 have h:=Ek W (X:=X) (hX:=hX) (d:=d+1) (j:=true) (cB:=cB) (e:=Wu) adw rfl L.w1 (L.w2.trans (ah fX (Z5 _ _)))
 refine WC.fn (P:=PV W X hX (d+1) true cB) h (da:=[]) (λ aa aa=>bJ.nil) Z4 rfl (show vs.length+0=2 from hl) ?_
 rw[bS]
 exact r
theorem P5(L:LK W){vs:ae AV}{m:ae AO}{K:AV->ae AO->Prop}(hl:vs.length=1)(r:(v_ (PV W X hX (d+1) true cB)).run ⟨fill dL.aS vs,m⟩ (iE K)):
  pg (PV W X hX (d+2) true cB) 902 vs m K:=by
 have h:=Ek W (X:=X) (hX:=hX) (d:=d+1) (j:=true) (cB:=cB) (e:=Wt) acs rfl L.l1 (L.l2.trans (ah fX (Yw _ _)))
 refine pg.fn (P:=PV W X hX (d+1) true cB) h (da:=[]) (λ aa aa=>bJ.nil) Yv (show vs.length+0=1 from hl) ?_
 rw[bS]
 exact r
end
def Xi(k:Int):TV:= .tp (.ex (.int k)) ac1
noncomputable def tlT:ae TV->TV
 |[]=> .ln
 |t::r=> .lc t (tlT r)
def ivT(l:ae (ae Int)):TV:=tlT (l.map λ b=>tlT (b.map Xi))
theorem RY:∀{b:ae (Int×ae Int)},(∀p∈b,vW p.2)->GV (tlT ((b.map (·.1)).map Xi)) (.lst (b.map qW))
 |[],_=>rfl
 |p::r,h=>⟨_,_,rfl,⟨_,_,rfl,rfl,_,rfl,h p aR⟩,RY λ q hq=>h q (aP _ hq)⟩
theorem Yp:∀{l:ae (ae (Int×ae Int))},(∀b∈l,∀p∈b,vW p.2)->GV (ivT (l.map (·.map (·.1)))) (k8 l)
 |[],_=>rfl
 |b::r,h=>⟨_,_,rfl,RY (h b aR),Yp λ c hc=>h c (aP _ hc)⟩
section
variable{prog:aK}{w:bw}{W:WK prog w}{X:BM->Prop}{hX:∀G G',dG G G'->X G->X G'}{pl ac:ae Int}
def szB(W:WK prog w)(X:BM->Prop)(hX:∀G G',dG G G'->X G->X G')(e:Kd)(sh ks:ae (ae Int)):aq e9:=SY (lS W X hX true 9) (.ex e.sc) (ivT sh) ks (ks.map λ aa=> .rg e.lo e.hi)
def acq(W:WK prog w)(X:BM->Prop)(hX:∀G G',dG G G'->X G->X G')(e:Kd)(sh:ae (ae Int)):aC:=(Ht e.ks).all λ ks=>(szB W X hX e sh ks).isSome
abbrev Wz(W:WK prog w)(X:BM->Prop)(hX:∀G G',dG G G'->X G->X G')(e:Kd):aC:=(shB e.two).all (acq W X hX e)
theorem kA:((E1 pl ac).take 1).all (Wz W X hX)=true:=by kernel_rfl
theorem kB:(((E1 pl ac).drop 1).take 1).all (Wz W X hX)=true:=by kernel_rfl
theorem kC:(((E1 pl ac).drop 2).take 4).all (Wz W X hX)=true:=by kernel_rfl
theorem kD:((E1 pl ac).drop 6).all (Wz W X hX)=true:=by kernel_rfl
theorem ZE:(E1 pl ac).all (Wz W X hX)=true:=by
 show((E1 pl ac).take 1++(((E1 pl ac).drop 1).take 1++(((E1 pl ac).drop 2).take 4++(E1 pl ac).drop 6))).all (Wz W X hX)=true
 rw[jY,jY,jY,kA,kB,kC,kD]
 rfl
theorem Q2{e:Kd}(he:e∈E1 pl ac){sh ks:ae (ae Int)}(hs:sh∈shB e.two)(hk:ks∈Ht e.ks):szB W X hX e sh ks=af ():=
 (jv.mp (aY.mp (aY.mp (aY.mp (ZE (W:=W) (X:=X) (hX:=hX)) e he) sh hs) ks hk)).elim λ aa z=>z
end
noncomputable abbrev JF:Type:=(Int×aC×Int)×ae Int×Int
def sJ:ae JF:=iZ.flatMap λ c=>(placesOf c.2.1).flatMap λ pl=>[(c,pl,0),(c,pl,1),(c,pl,2)]
theorem LP{c:Int×aC×Int}{pl:ae Int}{iv:Int}(hc:c∈iZ)(hp:pl∈placesOf c.2.1)(hi:iv=0\/iv=1\/iv=2):(c,pl,iv)∈sJ:=
 u9.mpr ⟨c,hc,u9.mpr ⟨pl,hp,hi.elim (λ e=>e▸ .head _) λ h=> .tail _ (h.elim (λ e=>e▸ .head _) λ e=>e▸ .tail _ (.head _))⟩⟩
noncomputable def par(m s:Nat):Nat:=(m+s - 1) / s
def unitsOf(c:Int×aC×Int)(pl:ae Int):ae (ae (Int×Int×Nat)):=match pl with
 |[p]=>(eA (par (aX (p==0) c.2.2.toNat (par c.2.2.toNat c.1.toNat)) 2)).map λ i=>[(0,p,i)]
 |_=>(eA (par c.2.2.toNat (2 * c.1.toNat))).map λ u=>(eA c.1.toNat).map (λ j=>(0,0,c.1.toNat * u+j))++[(1,1,u)]
def xw(k:JF):ae AV:=(unitsOf k.1 k.2.1).map λ u=> .lst (u.map λ b=> .tup [.int b.1, .int b.2.1, .int (b.2.2:Nat), .int 0])
noncomputable def chunk{α:Type}(s:Nat):Nat->ae (ae α)->ae (ae α)
 |0,_=>[]
 |f+1,l=>aX l.isEmpty [] ((l.take s).flatten::chunk s f (l.drop s))
def blI(k:JF):ae (ae (Int×Nat)):=(chunk (aX (k.2.2==0) (unitsOf k.1 k.2.1).length k.2.2.toNat) (unitsOf k.1 k.2.1).length (unitsOf k.1 k.2.1)).map (·.map λ b=>(b.1,aX (b.2.1==0) b.2.2 ((bi k.1).1+b.2.2)))
def rwN(k:JF):Nat:=(bi k.1).1+(bi k.1).2
def QS(ρ:Nat->ae Int)(k:JF):ae (ae Int):=(eA (rwN k)).map ρ
def Ip(ρ:Nat->ae Int)(k:JF):ae (ae (Int×ae Int)):=(blI k).map (·.map λ p=>(p.1,ρ p.2))
def N0(k:JF):AV:=jw k.1.1 k.1.2.1 k.1.2.2
def grK(ρ:Nat->ae Int)(k:JF):ae (ae (ae (ae Int))):=ot k.1.2.1 (bi k.1).1 (QS ρ k)
def rvK(ρ:Nat->ae Int)(k:JF):AV:=ox k.1.2.1 (bi k.1).1 (bi k.1).2 (QS ρ k)
def ueL(P:cC)(a b c:AV):Nat->ae AV->ae (aq (ae (TV×AS)))
 |_,[]=>[]
 |i,_::r=>(V9 P).ab ⟨[.ex a, .ex b, .ex c, .ex (.int i)],[]⟩::ueL P a b c (i+1) r
noncomputable def ueR(a b c:AV):Nat->ae AV->ae (aq (ae (TV×AS)))
 |_,[]=>[]
 |i,v::r=>af [(.ex v,⟨[.ex a, .ex b, .ex c, .ex (.int i)],[]⟩)]::ueR a b c (i+1) r
theorem RJ{P:cC}{a b c:AV}:∀{l:ae AV} {i:Nat},ueL P a b c i l=ueR a b c i l->UE P a b c i l
 |[],_,_=>trivial
 |_::_,_,h=>⟨Bl h,RJ (Bn h)⟩
def okK(k:JF):aC:=fu 0 (xw k).length&&(Builtin.Range.small 0 ((xw k).length:Nat) 1&&(decide ((blI k).map (·.map (·.1))∈oy k.2.1)&&(blI k).all (·.all λ p=>fu p.2 (rwN k))))
theorem Qp:sJ.all okK=true:=by decide+kernel
theorem CN{α:Type}(d:α):∀l:ae α,(eA l.length).map (λ i=>l.getD i d)=l:=λ l=>List.ext_getElem (by simp) λ i h1 h2=>by simp [h2]
section
variable{prog:aK}{w:bw}{W:WK prog w}{X:BM->Prop}{hX:∀G G',dG G G'->X G->X G'}{dc ac:ae Int}{s e:Int}{ρ:Nat->ae Int}
theorem u_0:(sJ.map λ k=>(DK (PN W X hX false 5)).ab ⟨[.ex (N0 k), .ex (jz k.2.1 dc ac s e), .ex .undef, .ex .undef],[]⟩)=sJ.map λ k=>af [(.d8,⟨[.ex (N0 k), .ex (jz k.2.1 dc ac s e), .ex (.int (xw k).length), .ex .undef],[]⟩)]:=by kernel_rfl
theorem u_1:(sJ.map λ k=>(DJ (PN W X hX false 5)).ab ⟨[.ex (N0 k), .ex (jz k.2.1 dc ac s e), .ex (.int (xw k).length), .ex .undef],[]⟩)=sJ.map λ k=>af [(.ex (.j_ 0 ((xw k).length:Nat) 1),⟨[.ex (N0 k), .ex (jz k.2.1 dc ac s e), .ex (.int (xw k).length), .ex .undef],[]⟩)]:=by kernel_rfl
theorem u_2:(sJ.map λ k=>ueL (PN W X hX false 5) (N0 k) (jz k.2.1 dc ac s e) (.int (xw k).length) 0 (xw k))=sJ.map λ k=>ueR (N0 k) (jz k.2.1 dc ac s e) (.int (xw k).length) 0 (xw k):=by kernel_rfl
theorem u_3:(sJ.map λ k=>ivB (PN W X hX false 6) (N0 k) (jz k.2.1 dc ac s e) (grK ρ k) k.2.2 (xw k))=sJ.map λ k=>af [(.ex (k8 (Ip ρ k)),[])]:=by kernel_rfl
theorem u_4:(sJ.map λ k=>lS W X hX false 5 892 [.ex (N0 k), .ex (jz k.2.1 dc ac s e), .ex (rvK ρ k), .ex (.int k.2.2)] [])=sJ.map λ k=>af [(.ex (k8 (Ip ρ k)),[])]:=by kernel_rfl
theorem acl(U:UK W){k:JF}(hk:k∈sJ){gv:AV}(hG:m8 (grK ρ k) gv):JX (PG W X hX) (N0 k) k.2.1 k.2.2 (rvK ρ k) gv (QS ρ k) (Ip ρ k):=
 have c1:=aF (aY.mp Qp k hk); have c2:=aF c1.2; have c3:=aF c2.2
 Yq U hG (lR c1.1) c2.1 (λ dc ac s e=>⟨r6 u_0 k hk,r6 u_1 k hk,RJ (r6 u_2 k hk)⟩) (λ dc ac s e=>r6 u_3 k hk) (λ dc ac s e=>r6 u_4 k hk)
  ((ah (·∈oy k.2.1) (show(Ip ρ k).map (·.map (·.1))=(blI k).map (·.map (·.1)) by unfold Ip; rw[t4]; exact sk λ b aa=>t4)).mpr (bg c3.1))
  λ b hb p hp=>(dN.mp hb).elim λ b' hb'=>(dN.mp (show p∈b'.map λ p=>(p.1,ρ p.2) from hb'.2.symm▸hp)).elim λ q hq=>hq.2▸g9 (q7.mpr (lR (aY.mp (aY.mp c3.2 b' hb'.1) q hq.1)))
theorem acn(U:UK W){k:JF}(hk:k∈sJ){gv:AV}{r:ae (ae Int)}(e:QS ρ k=r)(hG:m8 (ot k.1.2.1 (bi k.1).1 r) gv):JX (PG W X hX) (N0 k) k.2.1 k.2.2 (ox k.1.2.1 (bi k.1).1 (bi k.1).2 r) gv r (Ip ρ k):=by
 subst e
 exact acl U hk hG
theorem UJ(U:UK W){c:Int×aC×Int}(hc:c∈iZ){cs:ae (aC×ae Int)}(hl:cs.length=(bi c).1+(bi c).2)(h:∀c∈cs,nH c){pl:ae Int}(hp:pl∈placesOf c.2.1){iv:Int}(hi:iv=0\/iv=1\/iv=2):
  ∃bl,JX (PG W X hX) (jw c.1 c.2.1 c.2.2) pl iv (ox c.2.1 (bi c).1 (bi c).2 (cs.map (·.2))) (sE c.2.1 (bi c).1 cs) (cs.map (·.2)) bl:=
 ⟨_,acn U (LP hc hp hi) (ρ:=λ i=>(cs.map pd).getD i []) ((ah (λ n=>(eA n).map λ i=>(cs.map pd).getD i []) (hl.symm.trans (bL _).symm)).trans (CN [] (cs.map pd))) (Ad h)⟩
end
section
variable{prog:aK}{w:bw}(W:WK prog w)
def PS:cC:=(PN W (λ aa=>True) (λ aa aa aa h=>h) true 9).dn
def Ii(IV sc:AV)(ks:ae (ae Int))(us:ae Int):Prop:=∃sz,gZ (PS W) IV sc ks (bW us) sz
def VW(IV sc:AV)(ks:ae (ae Int))(us:ae Int):Int:=Classical.epsilon λ sz=>gZ (PS W) IV sc ks (bW us) sz
theorem AM{IV sc:AV}{ks:ae (ae Int)}{us:ae Int}(h:Ii W IV sc ks us):gZ (PS W) IV sc ks (bW us) (VW W IV sc ks us):=Classical.epsilon_spec h
def R61(c:ug)(ks:ae (ae Int)):Prop:=∀{prog:aK} {w:bw} (W:WK prog w) X hX,lS W X hX false 1 61 [.ex c.v] []=af [(.ex (.lst (ks.map tN)),[])]
structure J0(bl:ae (ae (Int×ae Int)))(c:ug)(k s:Int)(vals:ae Int):Prop where
 hk:(k=0/\vals=rV)\/(k=1/\vals=OB)
 r:R61 c [[k,s]]
 z:∀v∈vals,Ii W (k8 bl) c.v [[k,s]] [v]
structure RH(bl:ae (ae (Int×ae Int)))(c:ug):Prop where
 r:R61 c [[0,0],[0,1]]
 z:∀v∈rV,Ii W (k8 bl) c.v [[0,0]] [v]
 y:∀u∈rV,∀v∈rV,Ii W (k8 bl) c.v [[0,0],[0,1]] [u,v]
end
theorem RU:∀v∈OB,1<=v/\v<=3:=by decide
theorem wk:∀v∈rV,0<=v/\v<=85:=by decide
section
variable{prog:aK}{w:bw}{W:WK prog w}{bl:ae (ae (Int×ae Int))}{pl ac:ae Int}{e:Kd}{c:ug}{vals:ae Int}
theorem si(he:e∈E1 pl ac)(hc:e.sc=c.v):R61 c e.ks:=λ W X hX=>hc▸r6 r61 e he
theorem oQ{l u v:Int}(h:l<=v/\v<=u):GV (.rg l u) (.int v):=⟨v,rfl,h⟩
theorem uH(he:e∈E1 pl ac)(hc:e.sc=c.v){ks:ae (ae Int)}(hk:ks∈Ht e.ks)(hs:bl.map (·.map (·.1))∈shB e.two)(hr:∀b∈bl,∀p∈b,vW p.2){us:ae Int}(hu:dH (ks.map λ aa=> .rg e.lo e.hi) (bW us)):Ii W (k8 bl) c.v ks us:=
 hc▸Q3 (W:=W) (X:=λ aa=>True) (hX:=λ aa aa aa h=>h) (Q2 he hs hk) rfl (Yp hr) hu
inductive F_(W:WK prog w)(bl:ae (ae (Int×ae Int)))(c:ug):ae (ae Int)->ae Int->Prop
 |one {k s:Int} {vals:ae Int} (h:J0 W bl c k s vals) {v0:Int} {r:ae Int} (hv:vals=v0::r):F_ W bl c [[k,s]] [uh (λ v=>VW W (k8 bl) c.v [[k,s]] [v]) v0 r]
 |two (h:RH W bl c) {x:Int} (hx:x=uh (λ v=>VW W (k8 bl) c.v [[0,0]] [v]) 16 rV.tail):F_ W bl c [[0,0],[0,1]] [x,uh (λ v=>VW W (k8 bl) c.v [[0,0],[0,1]] [x,v]) 16 rV.tail]
theorem F9{Y:BM->Prop}{hY:∀G G',dG G G'->Y G->Y G'}{n:Nat}(h:18<=n){cB:xV}:(PS W).Le (PV W Y hY n true cB):=⟨rfl,rfl,h, .inr rfl,λ G g=>⟨g.1,trivial⟩⟩
theorem BB:∀l:ae Int,tg (bW l)
 |[]=>trivial
 |x::r=>⟨⟨x,rfl⟩,BB r⟩
theorem KE{X:BM->Prop}{hX:∀G G',dG G G'->X G->X G'}{ks:ae (ae Int)}{cs:ae Int}(h:F_ W bl c ks cs)(lf:au):
  WC (PV W (XL prog w X lf (k8 bl) c.v) (yw hX) 23 true bR) 68 [c.v, .int 2, .int 5, .fn lf] [] λ v m=>v= .bG ks (bW cs)/\m=[]:=by
 cases h with
 |one h hv=>exact OY (d:=20) (by decide) h.hk hv (h.r _ _ _) λ v hm=>E3 (hX:=hX) (d:=19) ((AM W (h.z v hm)).up (F9 (by decide)))
 |two h hx=>exact OZ (d:=20) (by decide) (g:=λ x v=>VW W (k8 bl) c.v [[0,0],[0,1]] [x,v]) (h.r _ _ _) (λ v hm=>E3 (hX:=hX) (d:=19) ((AM W (h.z v hm)).up (F9 (by decide)))) (λ u hu v hm=>E3 (hX:=hX) (d:=19) ((AM W (h.y u hu v hm)).up (F9 (by decide)))) hx (hx▸zQ _ _ _)
end
def mg(f:ae (ae Int)×ae Int):ae (ae Int)->ae Int->ae (ae Int)×ae Int
 |k::ks,c::cs=>mg (aX (pD f.1 k) f (f.1++[k],f.2++[c])) ks cs
 |_,_=>f
theorem R9{b x:aC}(h:aX b true x=false):b=false/\x=false:=by
 cases b
 ·exact⟨rfl,h⟩
 ·exact ay h
theorem zg:∀{ks:ae (ae Int)} {k:ae Int},pD ks k=false->rl ks k=ks++[k]
 |[],_=>λ aa=>rfl
 |x::r,k=>λ h=>have h:=R9 h; (mN h.1).trans (ah (x::·) (zg h.2))
theorem zh:∀{ks:ae (ae Int)} {vs:ae AV} {k:ae Int} {u:AV},pD ks k=false->ks.length=vs.length->wW ks vs k u=vs++[u]
 |[],[],_,_=>λ aa aa=>rfl
 |_::_,[],_,_=>λ aa l=>bt l (cy _)
 |[],_::_,_,_=>λ aa l=>bt l.symm (cy _)
 |x::r,v::vs,k,u=>λ h l=>have h:=R9 h; (lp h.1).trans (ah (v::·) (zh h.2 (eJ l)))
theorem y0:∀l:ae Int,(bW l).length=l.length
 |[]=>rfl
 |_::r=>ah (·+1) (y0 r)
theorem yZ:∀(l:ae Int) (c:Int),bW (l++[c])=bW l++[.int c]
 |[],_=>rfl
 |x::r,c=>ah (AV.int x::·) (yZ r c)
inductive BC:ae (ae Int)->ae Int->Prop
 |one (k s c:Int):BC [[k,s]] [c]
 |two (x y:Int):BC [[0,0],[0,1]] [x,y]
noncomputable abbrev F6:Type:=ae (ae Int)×ae Int
def YK(f:F6)(k:ae Int)(c:Int):F6:=aX (pD f.1 k) f (f.1++[k],f.2++[c])
structure JE(f:F6)(n:Nat):Prop where
 e:f.1.length=f.2.length
 l:f.1.length<=n
theorem JE.o{f:F6}{n:Nat}{k:ae Int}{c:Int}(h:JE f n):JE (YK f k c) (n+1):=by
 show JE (aX (pD f.1 k) f (f.1++[k],f.2++[c])) (n+1)
 cases pD f.1 k with
 |true=>exact⟨h.e,uN h.l⟩
 |false=>exact⟨bj.trans ((ah (·+1) h.e).trans (bj (as:=f.2) (bs:=[c])).symm),aG (aU bj) (eH h.l)⟩
theorem JE.m{f:F6}{n:Nat}{ks:ae (ae Int)}{cs:ae Int}(h:JE f n)(k:BC ks cs):JE (mg f ks cs) (n+2):=by
 cases k with
 |one k s c=>exact⟨h.o.e,uN h.o.l⟩
 |two x y=>exact h.o.o
def mgK(f:F6)(k:ae Int)(o:aq AV)(C:ae (ae Int)->ae AV->Prop):Prop:=aX (true !=pD f.1 k) (I1 o λ v=>cK (bB f.1.length 1000) (C (rl f.1 k) (wW f.1 (bW f.2) k v))) (C f.1 (bW f.2))
theorem Fc{f:F6}{k:ae Int}{o:aq AV}{c:Int}{C:ae (ae Int)->ae AV->Prop}{n:Nat}(ho:o=af (.int c))(hf:JE f n)(hn:n<=1000)(h:C (YK f k c).1 (bW (YK f k c).2)):mgK f k o C:=by
 unfold mgK
 unfold YK at h
 rw[ho]
 cases e:pD f.1 k with
 |true=>rw[e] at h; exact h
 |false=>
  rw[e] at h
  exact cK.i (c6 (aG hf.l hn)) (zg e▸zh (u:= .int c) e (hf.e.trans (y0 _).symm)▸yZ f.2 c▸h)
theorem rY{set:AV->St->(St->Prop)->Prop}{b:Body}{n k:Nat}{v:ae Int}{r:ae (ae Int)}{σ:St}{K:Fl->St->Prop}(h:set (.tup (bW v)) σ λ aI=>b aI λ f aV=>sd f aV (λ dC=>jq set b n (.keys (k+1) r) dC K) K):jq set b (n+1) (.keys k (v::r)) σ K:=h
theorem yU{set:AV->St->(St->Prop)->Prop}{b:Body}{n k:Nat}{σ:St}{K:Fl->St->Prop}(h:K .d8 σ):jq set b (n+1) (.keys k []) σ K:=h
theorem P_(k s:Int)(c:AV):wJ [[k,s]] [c] [k,s]=af c:=ah (aX · (af c) none) ((Ph _ _).trans (cz rfl):sn [k,s] [k,s]=true)
theorem G1{set:AV->St->(St->Prop)->Prop}{bd:Body}{ks:ae (ae Int)}{cs:ae Int}{S:AV->ae (ae Int)->ae AV->St}(hk:BC ks cs)(ht:∀x a b f (K:Fl->St->Prop),mgK f [a,b] (wJ ks (bW cs) [a,b]) (λ u v=>K .d8 (S (tN [a,b]) u v))->set (tN [a,b]) (S x f.1 (bW f.2)) λ σ=>bd σ K)
  {f:F6} {n:Nat} (hf:JE f n) (hn:n+2<=1000) {o:AV} {K:Fl->St->Prop} (hK:∀o,K .d8 (S o (mg f ks cs).1 (bW (mg f ks cs).2))):jq set bd 3 (.keys 0 ks) (S o f.1 (bW f.2)) K:=by
 have h0:=aG (bq n 2) hn
 cases hk with
 |one k s c=>exact rY (ht o k s f _ (Fc (P_ k s (.int c)) hf h0 (yU (hK _))))
 |two x y=>exact rY (ht o 0 0 f _ (Fc (c:=x) rfl hf h0 (rY (ht _ 0 1 (YK f [0,0] x) _ (Fc (c:=y) rfl hf.o (Nat.le_of_succ_le hn) (yU (hK _)))))))
structure Bb where
 p:ug
 ks:ae (ae Int)
 cs:ae Int
noncomputable def Bb.v(o:Bb):AV:=jz o.p.1 o.p.2.1 o.p.2.2.1 o.p.2.2.2.1 o.p.2.2.2.2
def Hc(f:F6)(l:ae Bb):F6:=l.foldl (λ f o=>mg f o.ks o.cs) f
theorem Km{α:Type}(pre:ae α)(p:α)(r:ae α):(pre++p::r)[pre.length]?=af p:=(eP (cF _)).trans (by rw[Nat.sub_self]; rfl)
theorem K9{set:AV->St->(St->Prop)->Prop}{b:Body}{n p k:Nat}{v:AV}{xs:ae AV}{σ:St}{K:Fl->St->Prop}(hm:bM σ.mem p=af (.lst xs))(e:nP xs k=af v)(h:set v σ λ aI=>b aI λ f aV=>sd f aV (λ dC=>jq set b n (.own p (k+1)) dC K) K):jq set b (n+1) (.own p k) σ K:=by
 refine dI hm ?_
 dsimp only
 rw[e]
 exact h
theorem IC{set:AV->St->(St->Prop)->Prop}{b:Body}{n p k:Nat}{xs:ae AV}{σ:St}{K:Fl->St->Prop}(hm:bM σ.mem p=af (.lst xs))(e:nP xs k=none)(h:K .d8 σ):jq set b (n+1) (.own p k) σ K:=by
 refine dI hm ?_
 dsimp only
 rw[e]
 exact h
theorem w_{set:AV->St->(St->Prop)->Prop}{bd:Body}{p:Nat}{α:Type}{S:α->F6->St}{A:Bb->Prop}{xs:ae Bb}(hm:∀a f,bM (S a f).mem p=af (.lst (xs.map (·.v))))(hA:∀o,A o->BC o.ks o.cs)
  (ht:∀o a f n (K:Fl->St->Prop),A o->JE f n->n+2<=1000->(∀a,K .d8 (S a (mg f o.ks o.cs)))->set o.v (S a f) λ σ=>bd σ K) {K:Fl->St->Prop}:∀(l pre:ae Bb) (i:Nat) (a:α) (f:F6) (n:Nat),xs=pre++l->i=pre.length->JE f n->n+2 * l.length+2<=1000->(∀o∈l,A o)->
  (∀a,K .d8 (S a (Hc f l)))->jq set bd (l.length+1) (.own p i) (S a f) K
 |[],pre,i,a,f,n,hx,hi,_,_,_,hK=>IC (hm a f) ((qB _ _).trans (e8 (aU ((bL _).trans ((ah fZ (hx.trans (bS pre))).trans hi.symm))))) (hK a)
 |o::r,pre,i,a,f,n,hx,hi,hf,hn,H,hK=>K9 (v:=o.v) (hm a f) ((qB _ _).trans (eQ.trans (ah _ (hx▸hi▸Km pre o r))))
   (ht o a f n _ (H o aR) hf (aG (bq (n+2) (2 * r.length+2)) (aG (aU (by rw[cV n 2,← Nat.add_assoc]; rfl)) hn)) λ a=>w_ hm hA ht r (pre++[o]) (i+1) a (mg f o.ks o.cs) (n+2) (hx.trans (List.append_cons pre o r)) (hi▸(bj (as:=pre) (bs:=[o])).symm)
    (hf.m (hA o (H o aR))) (aG (aU (ah (·+2) (cV n 2 _))) hn) (λ o h=>H o (aP _ h)) hK)
theorem pg.known{P:cC}{f:au}{dx:ae AV}{mem CZ:ae AO}{td:AV}{K:AV->ae AO->Prop}(h:pg P f dx mem λ v m=>v=td/\m=CZ)(k:K td CZ):pg P f dx mem K:=pg.mono h λ aa aa q=>q.1.symm▸q.2.symm▸k
theorem pg.adj{P:cC}{f:au}{dx:ae AV}{td:AV}(h:pg P f dx [.tab] λ v m=>v=td/\m=[.tab])(ca:∀f,eu f dx=dx)(cv:∀f,ew f td=td)(M:ae AO):pg P f dx (.tab::M) λ v m=>v=td/\m= .tab::M:=
 ca (eU [0] (M.length+1))▸pg.mono (pg.B6 h [0] (.tab::M) rfl (by decide) rfl λ i j ao hi hj=>match i,hi,hj with
  |0,hi,hj=>am hi▸am hj▸rfl) λ v m z=>z.elim λ v1 z=>z.elim λ m1 z=>⟨z.2.1.trans ((ah (ew _) z.1.1).trans (cv _)),z.2.2.1.trans (z.1.2▸bS _)⟩
theorem rZ{fa wd:Int}{two:aC}(f:Nat->Nat):ew f (jw fa two wd)=jw fa two wd:=by cases two<;>rfl
theorem sW(f:Nat->Nat):∀l:ae Int,eu f (bW l)=bW l
 |[]=>rfl
 |x::r=>ah (AV.int x::·) (sW f r)
theorem MP{f:Nat->Nat}{x y:AV}{l:ae AV}(hx:ew f x=x)(hy:ew f y=y)(hl:eu f l=l):eu f (x::y::l)=x::y::l:=by
 show ew f x::ew f y::eu f l=_
 rw[hx,hy,hl]
noncomputable def gI(ps:ae AV):AV:= .inst 812 [28,29] [.int 4, .lst ps]
theorem z_{ps:ae AV}{f:Nat->Nat}(h:eu f ps=ps):ew f (gI ps)=gI ps:=ah gI h
section
variable{prog:aK}{w:bw}{W:WK prog w}{X:BM->Prop}{hX:∀G G',dG G G'->X G->X G'}{n:Nat}{fa wd:Int}{two:aC}{ps:ae AV}{iv:Int}
structure GcA(P:cC)(fr g:AV)(iv:Int)(o:Bb):Prop where
 k:BC o.ks o.cs
 w:pg P 682 [fr,g,o.v, .int iv] [.tab] λ v m=>v= .bG o.ks (bW o.cs)/\m=[.tab]
noncomputable def gcL(fr g:AV)(iv:Int)(a5 a6 a7:AV):ae AV:=[fr,g, .own 1, .int iv, .own 2,a5,a6,a7]
def gcR(P:cC)(loc:ae AV)(m:ae AO)(K:Fl->St->Prop):Prop:=(Zt (oY P) (eZ 6 p0) (oW P) p0).run ⟨loc,m⟩ K
theorem Us(ES:∀f,eu f ps=ps)(l:ae Bb)(hl:l.length < 100)(H:∀o∈l,GcA (PV W X hX (n+1) true bR) (jw fa two wd) (gI ps) iv o):
  pg (PV W X hX (n+2) true bR) 689 [jw fa two wd,gI ps, .own 1, .int iv] [.tab, .lst (l.map (·.v))] λ v m=>v= .own 2/\m=[.tab, .lst (l.map (·.v)), .bG (Hc ([],[]) l).1 (bW (Hc ([],[]) l).2)]:=
 B8 (d:=n) (i:=1) (e:=fe 689 bV ["frame","grid","scans","interval"] l7) rfl rfl rfl (nf (B:=∃N,jq (oZ (PV W X hX (n+1) true bR)).set (oX (PV W X hX (n+1) true bR)).run N (.own 1 0) ⟨gcL (jw fa two wd) (gI ps) iv .undef .undef .undef,[.tab, .lst (l.map (·.v)), .bG [] []]⟩
   (pI (iH (Ft (eZ 4 p0) p0) lK:SS (PV W X hX (n+1) true bR) bV) (iE λ v m=>v= .own 2/\m=[.tab, .lst (l.map (·.v)), .bG (Hc ([],[]) l).1 (bW (Hc ([],[]) l).2)]))) (by kernel_rfl)
  ⟨_,w_ (p:=1) (S:=λ(a:AV×AV×AV) f=>⟨gcL (jw fa two wd) (gI ps) iv a.1 a.2.1 a.2.2,[.tab, .lst (l.map (·.v)), .bG f.1 (bW f.2)]⟩) (λ aa aa=>rfl) (λ aa h=>h.k) (λ o a f m K hA hf hm hK=>
    nf (B:=pg (PV W X hX (n+1) true bR) 682 [jw fa two wd,gI ps,o.v, .int iv] [.tab, .lst (l.map (·.v)), .bG f.1 (bW f.2)] λ v m=>gcR (PV W X hX (n+1) true bR) (gcL (jw fa two wd) (gI ps) iv o.v v a.2.2) m λ f σ=>sd f σ (λ σ=>K .d8 σ) K) (by kernel_rfl)
     ((hA.w.adj (λ f=>MP (rZ f) (z_ (ES f)) rfl) (λ f=>ah (AV.bG o.ks) (sW f _)) _).known
      ⟨3,G1 (S:=λ x u v=>⟨gcL (jw fa two wd) (gI ps) iv o.v (.bG o.ks (bW o.cs)) x,[.tab, .lst (l.map (·.v)), .bG u v]⟩) hA.k (λ x a b f K h=>nf (by kernel_rfl) h) hf hm λ x=>hK (_,_,x)⟩))
   l [] 0 (.undef, .undef, .undef) ([],[]) 0 rfl rfl ⟨rfl,cF _⟩ (aG (fF (aG (aU (fy _)) (jE 2 (eX hl))) 2) (by decide)) H λ aa=>⟨rfl,rfl⟩⟩)
end
section
variable{prog:aK}{w:bw}{W:WK prog w}{X:BM->Prop}{hX:∀G G',dG G G'->X G->X G'}{d:Nat}{cB:xV}{bl:ae (ae (Int×ae Int))}{pl dc ac:ae Int}{a b:Int}
noncomputable def mq(l:ae (Int×Int)):ae AV:=l.map λ p=> .tup [.int p.1, .int p.2]
theorem HL(l:ae (Int×Int))(i:Nat):nP (mq l) i=l[i]?.map λ p=> .tup [.int p.1, .int p.2]:=(qB _ _).trans eQ
theorem HM(f:Nat)(m:ae AO)(n:Nat):∀l:ae (Int×Int),i2 (lW f m (n+2)) (mq l)=af (mq l)
 |[]=>rfl
 |p::r=>bX (rfl:lW f m (n+2) (.tup [.int p.1, .int p.2])=af (.tup [.int p.1, .int p.2])) (HM f m n r)
theorem Gr(f:Nat)(m:ae AO)(n:Nat):∀l:ae (Int×ae Int),i2 (lW f m (n+2)) (l.map qW)=af (l.map qW)
 |[]=>rfl
 |p::r=>bX rfl (Gr f m n r)
theorem G0(f:Nat)(m:ae AO):∀l:ae (ae (Int×ae Int)),i2 (lW f m 11) (l.map λ b=>AV.lst (b.map qW))=af (l.map λ b=>AV.lst (b.map qW))
 |[]=>rfl
 |b::r=>bX (ah (ob · λ l=>af (AV.lst l)) (Gr f m 8 b)) (G0 f m r)
theorem UL(f:Nat)(m:ae AO)(l:ae (ae (Int×ae Int))):lW f m 12 (k8 l)=af (k8 l):=ah (ob · λ l=>af (AV.lst l)) (G0 f m l)
def pS(a:AV):Prop:=a= .undef\/∃x,a= .int x
theorem pS.res{a:AV}(h:pS a)(n:Nat)(m:ae AO):lW n m 12 a=af a:=by
 rcases h with rfl|⟨x,rfl⟩<;>rfl
noncomputable def m5(pl dc ac:ae Int)(a b:Int)(bl:ae (ae (Int×ae Int)))(k s:Int)(a5 o6 a7 le:AV):ae AV:=[jz pl dc ac a b,k8 bl, .own 0, .int k, .int s,a5,o6,a7,le]
theorem G9{n:Nat}{m:ae AO}{k s:Int}{a5 o6 le:AV}(h5:lW (n+1) m 12 a5=af a5)(h6:pS o6)(hl:pS le):i2 (lW (n+1) m 12) (m5 pl dc ac a b bl k s a5 o6 .undef le)=af (m5 pl dc ac a b bl k s a5 o6 .undef le):=
 bX rfl (bX (UL _ _ bl) (bX rfl (bX rfl (bX rfl (bX h5 (bX (h6.res _ _) (bX rfl (bX (hl.res _ _) rfl))))))))
noncomputable def wM(k s:Int)(ks:ae (ae Int))(us:ae AV)(v:Int)(sl:ae Int)(l:ae (Int×Int)):ae AO:=[.bG ks us, .il sl, .lst (mq l), .bG (ks++[[k,s]]) (us++[.int v])]
theorem IW{P:cC}{v:AV}{σ:St}{K:St->Prop}(h:K (σ.set 6 v)):(jy P).set v σ K:=h
def wtE(P:cC)(sc IV:AV)(loc:ae AV)(v:Int)(M:ae AO)(K:Fl->St->Prop):Prop:=WC P 640 [sc, .int 2, .own 3] M λ u m=>WC P 49 [IV,u] m λ u m=>tB "list.append" (.own 2) [.tup [u, .int v]] ⟨loc,m⟩ (λ aa σ=>Lc 3 (GI.getD 2 []) K .d8 σ)/\("list.append"="bytearray.append"->false=true)
theorem Z7{k s v z:Int}{ks:ae (ae Int)}{us:ae AV}(sG:Pre k s ks us){sl:ae Int}{l:ae (Int×Int)}(hl:l.length<=1000){le:AV}(hle:pS le)(H:gZ (PV W X hX (d+1) true cB) (k8 bl) (jz pl dc ac a b) (ks++[[k,s]]) (us++[.int v]) z)(K:Fl->St->Prop)
  (hK:K .d8 ⟨m5 pl dc ac a b bl k s (.own 2) (.int v) .undef le,[.bG ks us, .il sl, .lst (mq (l++[(z,v)]))]⟩):
  (jx (PV W X hX (d+1) true cB)).run ⟨m5 pl dc ac a b bl k s (.own 2) (.int v) .undef le,[.bG ks us, .il sl, .lst (mq l)]⟩ K:=
 have e:(jx (PV W X hX (d+1) true cB)).run ⟨m5 pl dc ac a b bl k s (.own 2) (.int v) .undef le,[.bG ks us, .il sl, .lst (mq l)]⟩ K=wtE (PV W X hX (d+1) true cB) (jz pl dc ac a b) (k8 bl) (m5 pl dc ac a b bl k s (.own 2) (.int v) (.own 3) le) v (wM k s ks us v sl l) K:=by
  rcases sG with⟨rfl,rfl⟩|⟨rfl,rfl,rfl,c,rfl⟩<;>kernel_rfl
 nf e<|RI.casesOn (motive:=λ aa=>wtE (PV W X hX (d+1) true cB) (jz pl dc ac a b) (k8 bl) (m5 pl dc ac a b bl k s (.own 2) (.int v) (.own 3) le) v (wM k s ks us v sl l) K) (H.use (M:=wM k s ks us v sl l) (i:=3) rfl (λ aa=>rfl) λ f=>r5 f bl)
  λ aa xJ qk r0 r1 aa aa aa aa w1 w2=>w1.known<|w2.known ⟨⟨rfl,cK.i (c6 (aG (aU (bL _)) (aG hl (by decide))))<|
   z9 (l:=m5 pl dc ac a b bl k s (.own 2) (.int v) .undef le) (m:=[.bG ks us, .il sl, .lst (mq (l++[(z,v)]))]) rfl (G9 rfl (.inr ⟨v,rfl⟩) hle)
    (bX (sG.res _ _) (bX rfl (bX (ah (ob · λ l=>af (AO.lst l)) ((ah (i2 _) (List.map_append (l₁:=l) (l₂:=[(z,v)])).symm).trans (HM 3 _ 10 (l++[(z,v)])))) rfl))) hK⟩,λ e=>bt e (by decide)⟩
theorem HY{k s:Int}{f:Int->Int}{ks:ae (ae Int)}{us:ae AV}(sG:Pre k s ks us){sl:ae Int}{le:AV}(hle:pS le):∀(vals:ae Int) (l:ae (Int×Int)) (i:Nat) (o6:AV) (K:Fl->St->Prop),pS o6->l.length+vals.length<=1000->
  (∀v∈vals,gZ (PV W X hX (d+1) true cB) (k8 bl) (jz pl dc ac a b) (ks++[[k,s]]) (us++[.int v]) (f v))->
  (∀o6,pS o6->K .d8 ⟨m5 pl dc ac a b bl k s (.own 2) o6 .undef le,[.bG ks us, .il sl, .lst (mq (l++vals.map λ v=>(f v,v)))]⟩)->
  jq (jy (PV W X hX (d+1) true cB)).set (jx (PV W X hX (d+1) true cB)).run (vals.length+1) (.fz i (bW vals)) ⟨m5 pl dc ac a b bl k s (.own 2) o6 .undef le,[.bG ks us, .il sl, .lst (mq l)]⟩ K
 |[],l,i,o6,K,h6,_,_,hK=>sD (bS l▸hK o6 h6)
 |v::r,l,i,o6,K,h6,hn,H,hK=>mu (IW (Z7 sG (aG (bq ..) hn) hle (H v aR) _ (js (HY sG hle r (l++[(f v,v)]) (i+1) (.int v) K (.inr ⟨v,rfl⟩)
   (bj▸aG (aU (cV _ 1 _)) hn) (λ x hx=>H x (aP _ hx)) λ o6 h6=>(gR ..).symm▸hK o6 h6))))
noncomputable def outs(out:Int×Int->ae AV):ae (Int×Int)->ae AV
 |[]=>[]
 |p::r=>out p++outs out r
theorem O3{set:AV->St->(St->Prop)->Prop}{b:JD}{n q i:Nat}{vs:ae AV}{v:AV}{σ:St}{K:St->Prop}(hm:bM σ.mem q=af (.lst vs))(e:nP vs i=af v)(h:set v σ λ aI=>b aI λ aV=>li set b n (.own q (i+1)) aV K):li set b (n+1) (.own q i) σ K:=by
 refine dI hm ?_
 dsimp only
 rw[e]
 exact h
theorem KH{set:AV->St->(St->Prop)->Prop}{b:JD}{n q i:Nat}{vs:ae AV}{σ:St}{K:St->Prop}(hm:bM σ.mem q=af (.lst vs))(e:nP vs i=none)(h:K σ):li set b (n+1) (.own q i) σ K:=by
 refine dI hm ?_
 dsimp only
 rw[e]
 exact h
theorem zT{set:AV->St->(St->Prop)->Prop}{bd:JD}{q:Nat}{L:ae (Int×Int)}{out:Int×Int->ae AV}{S:AV->AV->ae AV->St}{K:St->Prop}(ho:∀p,(out p).length<=1)(hm:∀x y acc,bM (S x y acc).mem q=af (.lst (mq L)))
  (ht:∀p x y acc C,acc.length<=1000->C (S (.int p.1) (.int p.2) (acc++out p))->set (.tup [.int p.1, .int p.2]) (S x y acc) λ σ=>bd σ C):∀(r pre:ae (Int×Int)) (i:Nat) (x y:AV) (acc:ae AV),L=pre++r->i=pre.length->acc.length+r.length<=1000->
  (∀x y,K (S x y (acc++outs out r)))->li set bd (r.length+1) (.own q i) (S x y acc) K
 |[],pre,i,x,y,acc,hL,hi,_,hK=>KH (hm x y acc) ((HL L i).trans (ah _ (e8 (aU ((ah fZ (hL.trans (bS pre))).trans hi.symm))))) (bS acc▸hK x y)
 |p::r,pre,i,x,y,acc,hL,hi,hn,hK=>O3 (v:= .tup [.int p.1, .int p.2]) (hm x y acc) ((HL L i).trans (ah _ (hL▸hi▸Km pre p r)))
   (ht p x y acc _ (aG (bq ..) hn) (zT ho hm ht r (pre++[p]) (i+1) _ _ (acc++out p) (hL.trans (List.append_cons pre p r)) (hi▸(bj (as:=pre) (bs:=[p])).symm) (bj▸aG (fF (hH (ho p) _) _) (aG (aU (cV _ 1 _)) hn)) λ x y=>(gR ..).symm▸hK x y))
noncomputable def szK(l:ae (Int×Int)):ae AV:=outs (λ p=>[.int p.1]) l
noncomputable def AL(le:Int)(l:ae (Int×Int)):ae AV:=outs (λ p=>aX (p.1==le) [.int p.2] []) l
def Xt(P:cC):CL P (pR.ct cN):=cl1 (Nz [(1,"size",p0),(2,"value",p0)] 0 p0) (eZ 1 p0)
def Xs(P:cC):CL P (pQ.ct cN):=TJ (Nz [(1,"size",p0),(2,"value",p0)] 0 p0) (eZ 2 p0) (Rc (eZ 1 p0) .Eq (eZ 3 p0) p0)
theorem TN{P:cC}{L:ae (Int×Int)}{D:AO}{il:ae Int}{K:St->Prop}(hn:L.length<=1000)(hK:∀x y,K ⟨[.undef,x,y],[D, .il il, .lst (mq L), .lst (szK L)]⟩):li (Xt P).mQ.set ((Xt P).body 3) (L.length+1) (.own 2 0) ⟨[.undef, .undef, .undef],[D, .il il, .lst (mq L), .lst []]⟩ K:=
 zT (q:=2) (S:=λ x y acc=>⟨[.undef,x,y],[D, .il il, .lst (mq L), .lst acc]⟩) (λ aa=>cF _) (λ aa aa aa=>rfl) (λ p x y acc C hl h=>nf (B:=cK (bB acc.length 1000000) (C ⟨[.undef, .int p.1, .int p.2],[D, .il il, .lst (mq L), .lst (acc++[.int p.1])]⟩)) (by kernel_rfl) (cK.i (c6 (aG hl (by decide))) h)) L [] 0 _ _ [] rfl rfl (aG (aU (fy _)) hn) hK
theorem TM{P:cC}{L:ae (Int×Int)}{D:AO}{il:ae Int}{o3:AO}{le:Int}{K:St->Prop}(hn:L.length<=1000)(hK:∀x y,K ⟨[.undef,x,y, .int le],[D, .il il, .lst (mq L),o3, .lst (AL le L)]⟩):li (Xs P).mQ.set ((Xs P).body 4) (L.length+1) (.own 2 0) ⟨[.undef, .undef, .undef, .int le],[D, .il il, .lst (mq L),o3, .lst []]⟩ K:=
 zT (q:=2) (S:=λ x y acc=>⟨[.undef,x,y, .int le],[D, .il il, .lst (mq L),o3, .lst acc]⟩) (λ p=>by cases p.1==le; exact oA 1; exact cF 1) (λ aa aa aa=>rfl) (λ p x y acc C hl h=>nf (B:=aX (p.1==le) (cK (bB acc.length 1000000) (C ⟨[.undef, .int p.1, .int p.2, .int le],[D, .il il, .lst (mq L),o3, .lst (acc++[.int p.2])]⟩)) (C ⟨[.undef, .int p.1, .int p.2, .int le],[D, .il il, .lst (mq L),o3, .lst acc]⟩)) (by kernel_rfl) (by
  cases e:p.1==le
  ·rw[e] at h; exact bS acc▸h
  ·rw[e] at h; exact cK.i (c6 (aG hl (by decide))) h)) L [] 0 _ _ [] rfl rfl (aG (aU (fy _)) hn) hK
noncomputable def pF(f:Int->Int)(v:Int):Int×Int:=(f v,v)
theorem HJ{le:Int}{p:Int×Int}{r:ae (Int×Int)}(h:p.1=le):AL le (p::r)= .int p.2::AL le r:=ah (aX · [AV.int p.2] []++AL le r) (a4.mpr h)
theorem vH{le:Int}{p:Int×Int}{r:ae (Int×Int)}(h:p.1≠le):AL le (p::r)=AL le r:=ah (aX · [AV.int p.2] []++AL le r) (d_.mpr h)
theorem BU(f:Int->Int)(b:Int):∀r:ae Int,(∀v∈r,f b<=f v)->uh f b r=b
 |[],_=>rfl
 |v::r,h=>(ah (λ c=>uh f (aX c v b) r) (dj (gX.mpr (h v aR)))).trans (BU f b r λ x hx=>h x (aP _ hx))
theorem rX(f:Int->Int)(m:Int):∀(r:ae Int) (b:Int),(∀v∈b::r,m<=f v)->(∃v∈b::r,f v=m)->∃t,AL m ((b::r).map (pF f))= .int (uh f b r)::t
 |[],b,h1,h2=>h2.elim λ v z=>⟨[],HJ (p:=pF f b) (r:=[]) (be.mp z.1▸z.2)⟩
 |v::r,b,h1,h2=>by
  obtain⟨x,hx,e⟩:=h2
  have hb:=h1 b aR
  have hr:∀y∈r,m<=f y:=λ y hy=>h1 y (aP _ (aP _ hy))
  show ∃t,AL m (pF f b::pF f v::r.map (pF f))= .int (uh f (aX (decide (f v < f b)) v b) r)::t
  by_cases q:f v < f b
  ·have nb:f b≠m:=jl (gB (h1 v (aP _ aR)) q)
   rw[cz q,vH (p:=pF f b) nb]
   exact rX f m r v (λ y hy=>h1 y (aP _ hy)) ⟨x,(bQ.mp hx).resolve_left λ z=>nb (z▸e),e⟩
  ·rw[dj q]
   by_cases eb:f b=m
   ·exact⟨_,(HJ (p:=pF f b) eb).trans (ah (λ z=>AV.int z::_) (BU f b r λ y hy=>eb▸hr y hy).symm)⟩
   ·have nv:f v≠m:=jl (kh (H4.mpr ⟨hb,Ne.symm eb⟩) (gX.mp q))
    rw[vH (p:=pF f b) eb,vH (p:=pF f v) nv,← vH (p:=pF f b) eb]
    exact rX f m r b (λ y hy=>(bQ.mp hy).elim (λ z=>z▸hb) (hr y)) ⟨x,bQ.mpr (.inr ((bQ.mp ((bQ.mp hx).resolve_left λ z=>eb (z▸e))).resolve_left λ z=>nv (z▸e))),e⟩
theorem I3(L:ae (Int×Int)):intsOf (szK L)=af (L.map (·.1)):=by
 induction L with
 |nil=>rfl
 |cons p r ih=>show(match intsOf (szK r) with|some l=>af (p.1::l)|none=>none)=_; rw[ih]; rfl
theorem Fm{M:ae AO}{i:Nat}{L:ae (Int×Int)}{K:ae Int->Prop}(h:bM M i=af (.lst (szK L)))(k:K (L.map (·.1))):lV (.own i) M K:=dI h ((ah (sP · K) (I3 L)).mpr k)
def w3(P:cC):SX P cN:=M0 8 p0 (S_ p0 (iS (NT pR (eZ 5 p0) (Xt P) p0) qZ) p0) p0
def w4(P:cC):SX P cN:=SU (eZ 2 p0) (Wl (iS (eZ 3 p0) (iS (eZ 4 p0) qZ)) 0 p0) p0 (FO (NT pQ (eZ 5 p0) (Xs P) p0) (ym 0 p0) p0) p0
def KF(K:Fl->St->Prop):Fl->St->Prop:=Lc 2 (GI.getD 3 []) K
def Wa(P:cC):SS P cN:=iH (w3 P) (iH (w4 P) lK)
def wtF(P:cC)(v:AV)(σ:St)(K:Fl->St->Prop):Prop:=Uj (jy P).lz (jy P).set (jx P).run v σ (pI (Wa P) (KF K))
def wt4(P:cC)(loc:ae AV)(m:ae AO)(K:Fl->St->Prop):Prop:=(iH (w4 P) lK).run ⟨loc,m⟩ (KF K)
def wtS(k s:Int)(loc:ae AV)(m:ae AO)(K:Fl->St->Prop):Prop:=IH (.own 4) (.int 0) m λ v=>Jh (.own 0) (.tup [.int k, .int s]) v ⟨loc,m⟩ λ σ=>KF K .d8 σ
theorem Pre.put{k s x:Int}{ks:ae (ae Int)}{us:ae AV}(h:Pre k s ks us){t l1 l2:ae AV}{sl:ae Int}{loc:ae AV}{K:Fl->St->Prop}:wtS k s loc [.bG ks us, .il sl, .lst l1, .lst l2, .lst (.int x::t)] K=need (cM 0 (t.length+1)) (KF K .d8 ⟨loc,[.bG (ks++[[k,s]]) (us++[.int x]), .il sl, .lst l1, .lst l2, .lst (.int x::t)]⟩):=by
 rcases h with⟨rfl,rfl⟩|⟨rfl,rfl,rfl,c,rfl⟩<;>kernel_rfl
theorem S9{k s b0:Int}{tl:ae Int}{f:Int->Int}{ks:ae (ae Int)}{us:ae AV}(sG:Pre k s ks us){sl:ae Int}{le o6:AV}(hle:pS le)(h6:pS o6)(hn:tl.length<=100)
  (H:∀v∈b0::tl,gZ (PV W X hX (d+1) true cB) (k8 bl) (jz pl dc ac a b) (ks++[[k,s]]) (us++[.int v]) (f v)) (K:Fl->St->Prop)
  (hK:∀o6 x,pS o6->K .d8 ⟨m5 pl dc ac a b bl k s .undef o6 .undef (.int x),[.bG (ks++[[k,s]]) (us++[.int (uh f b0 tl)]), .il sl]⟩):
  wtF (PV W X hX (d+1) true cB) (.row (b0::tl)) ⟨m5 pl dc ac a b bl k s (.own 2) o6 .undef le,[.bG ks us, .il sl, .lst []]⟩ K:=
 have hl:((b0::tl).map (pF f)).length<=1000:=aG (aU (bL _)) (aG (eH hn) (by decide))
 have n3 (o6:AV) (L:ae (Int×Int)):pI (Wa (PV W X hX (d+1) true cB)) (KF K) .d8 ⟨m5 pl dc ac a b bl k s (.own 2) o6 .undef le,[.bG ks us, .il sl, .lst (mq L)]⟩=
   ∃N,li (Xt (PV W X hX (d+1) true cB)).mQ.set ((Xt (PV W X hX (d+1) true cB)).body 3) N (.own 2 0) ⟨[.undef, .undef, .undef],[.bG ks us, .il sl, .lst (mq L), .lst []]⟩ λ σ=>
    lV (.own 3) σ.mem λ ns=>aX ns.isEmpty False (wt4 (PV W X hX (d+1) true cB) (m5 pl dc ac a b bl k s (.own 2) o6 .undef (.int (CY ns))) σ.mem K):=by kernel_rfl
 have n4 (o6:AV) (x:Int) (L:ae (Int×Int)) (l2:ae AV):wt4 (PV W X hX (d+1) true cB) (m5 pl dc ac a b bl k s (.own 2) o6 .undef (.int x)) [.bG ks us, .il sl, .lst (mq L), .lst l2] K=
   ∃N,li (Xs (PV W X hX (d+1) true cB)).mQ.set ((Xs (PV W X hX (d+1) true cB)).body 4) N (.own 2 0) ⟨[.undef, .undef, .undef, .int x],[.bG ks us, .il sl, .lst (mq L), .lst l2, .lst []]⟩ λ σ=>
    wtS k s (m5 pl dc ac a b bl k s (.own 2) o6 .undef (.int x)) σ.mem K:=by kernel_rfl
 have em:((b0::tl).map (pF f)).map (·.1)=(b0::tl).map f:=t4
 have mn:=tQ ((b0::tl).map f) (λ h=>nomatch h)
 (rX f (CY ((b0::tl).map f)) tl b0 (λ v hv=>mn.2 _ (g9 hv)) (dN.mp mn.1)).elim λ t ht=>
 ⟨_,HY sG hle (b0::tl) [] 0 o6 (pI (Wa (PV W X hX (d+1) true cB)) (KF K)) h6 (aG (aU (fy _)) (aG (eH hn) (by decide))) H λ o6 h6=>
  nf (n3 o6 _) ⟨_,TN hl λ x y=>Fm (L:=(b0::tl).map (pF f)) rfl (em▸nf (n4 o6 _ _ _) ⟨_,TM hl λ x y=>ht.symm▸nf sG.put (Mine.nd ⟨by decide,Int.ofNat_succ_pos _,by decide⟩
   (z9 rfl (G9 rfl h6 (.inr ⟨_,rfl⟩)) (bX (sG.Zl _ _) (bX rfl rfl)) (hK _ _ h6)))⟩)⟩⟩
theorem Rx(hd:2<=d){k s:Int}{f:Int->Int}{ks:ae (ae Int)}{us:ae AV}(sG:Pre k s ks us){sl:ae Int}{le o6:AV}(hle:pS le)(h6:pS o6)(hk:k=1)
  (H:∀v∈OB,gZ (PV W X hX (d+1) true cB) (k8 bl) (jz pl dc ac a b) (ks++[[k,s]]) (us++[.int v]) (f v)) (K:Fl->St->Prop)
  (hK:∀o6 x,pS o6->K .d8 ⟨m5 pl dc ac a b bl k s .undef o6 .undef (.int x),[.bG (ks++[[k,s]]) (us++[.int (uh f 1 [2,3])]), .il sl]⟩):
  (lT (PV W X hX (d+1) true cB)).run ⟨m5 pl dc ac a b bl k s .undef o6 .undef le,[.bG ks us, .il sl]⟩ K:=
 nf (B:=WC (PV W X hX (d+1) true cB) 35 [.int 2] [.bG ks us, .il sl, .lst []] λ v m=>wtF (PV W X hX (d+1) true cB) v ⟨m5 pl dc ac a b bl k s (.own 2) o6 .undef le,m⟩ K) (by subst hk; kernel_rfl) ((c35 hd _).known (S9 sG hle h6 (by decide) H K hK))
theorem A0(hd:2<=d){k s:Int}{f:Int->Int}{ks:ae (ae Int)}{us:ae AV}(sG:Pre k s ks us){sl:ae Int}{le o6:AV}(hle:pS le)(h6:pS o6)(hk:k=0)
  (H:∀v∈rV,gZ (PV W X hX (d+1) true cB) (k8 bl) (jz pl dc ac a b) (ks++[[k,s]]) (us++[.int v]) (f v)) (K:Fl->St->Prop)
  (hK:∀o6 x,pS o6->K .d8 ⟨m5 pl dc ac a b bl k s .undef o6 .undef (.int x),[.bG (ks++[[k,s]]) (us++[.int (uh f 16 rV.tail)]), .il sl]⟩):
  (lT (PV W X hX (d+1) true cB)).run ⟨m5 pl dc ac a b bl k s .undef o6 .undef le,[.bG ks us, .il sl]⟩ K:=
 nf (B:=WC (PV W X hX (d+1) true cB) 28 [.int 5] [.bG ks us, .il sl, .lst []] λ v m=>wtF (PV W X hX (d+1) true cB) v ⟨m5 pl dc ac a b bl k s (.own 2) o6 .undef le,m⟩ K) (by subst hk; kernel_rfl) ((c28 hd _).known (S9 sG hle h6 (by decide) H K hK))
end
theorem vj{set:AV->St->(St->Prop)->Prop}{b:Body}{n p k:Nat}{v:AV}{ns:ae Int}{σ:St}{K:Fl->St->Prop}(hm:bM σ.mem p=af (.il ns))(e:nP (bW ns) k=af v)(h:set v σ λ aI=>b aI λ f aV=>sd f aV (λ dC=>jq set b n (.own p (k+1)) dC K) K):jq set b (n+1) (.own p k) σ K:=by
 refine dI hm ?_
 dsimp only
 rw[e]
 exact h
theorem ww{set:AV->St->(St->Prop)->Prop}{b:Body}{n p k:Nat}{ns:ae Int}{σ:St}{K:Fl->St->Prop}(hm:bM σ.mem p=af (.il ns))(e:nP (bW ns) k=none)(h:K .d8 σ):jq set b (n+1) (.own p k) σ K:=by
 refine dI hm ?_
 dsimp only
 rw[e]
 exact h
theorem qz{P:cC}{v:AV}{σ:St}{K:St->Prop}(h:K (σ.set 4 v)):(pq P).set v σ K:=h
section
variable{prog:aK}{w:bw}{W:WK prog w}{X:BM->Prop}{hX:∀G G',dG G G'->X G->X G'}{d:Nat}{cB:xV}{bl:ae (ae (Int×ae Int))}{pl dc ac:ae Int}{a b:Int}
def wtO(P:cC)(pl dc ac:ae Int)(a b:Int)(bl:ae (ae (Int×ae Int)))(k:Int)(ns:ae Int)(K:AV->ae AO->Prop):Prop:=∃N,jq (pq P).set (lT P).run N (.own 1 0) ⟨[jz pl dc ac a b,k8 bl, .own 0, .int k, .undef, .undef, .undef, .undef, .undef],[.bG [] [], .il ns]⟩ (pI (iH (Ft (eZ 2 p0) p0) lK:SS P cN) (iE K))
theorem DL(L:LK W){ns:ae Int}(hz:zo dc=true)(hs:lJ dc=ns){ks:ae (ae Int)}{us:ae AV}(hI:i2 (lW 0 (.bG ks us::[.il ns]) 11) us=af us)(h:wtO (PV W X hX (d+1) true cB) pl dc ac 0 b bl 0 ns λ v m=>v= .own 0/\m= .bG ks us::[.il ns]):
  WC (PV W X hX (d+2) true cB) 897 [jz pl dc ac 0 b,k8 bl] [] λ v m=>v= .bG ks us/\m=[]:=
 AA (rest:=[.il (lJ dc)]) (hs▸hI) (xy L rfl (nf (B:=cK (zo dc) (wtO (PV W X hX (d+1) true cB) pl dc ac 0 b bl 0 (lJ dc) λ v m=>v= .own 0/\m= .bG ks us::[.il (lJ dc)])) (by kernel_rfl) (cK.i hz (hs▸h))))
theorem NN(L:LK W){ns:ae Int}(hz:zo ac=true)(hs:lJ ac=ns){ks:ae (ae Int)}{us:ae AV}(hI:i2 (lW 0 (.bG ks us::[.il ns]) 11) us=af us)(h:wtO (PV W X hX (d+1) true cB) pl dc ac 1 b bl 1 ns λ v m=>v= .own 0/\m= .bG ks us::[.il ns]):
  WC (PV W X hX (d+2) true cB) 897 [jz pl dc ac 1 b,k8 bl] [] λ v m=>v= .bG ks us/\m=[]:=
 AA (rest:=[.il (lJ ac)]) (hs▸hI) (xy L rfl (nf (B:=cK (zo ac) (wtO (PV W X hX (d+1) true cB) pl dc ac 1 b bl 1 (lJ ac) λ v m=>v= .own 0/\m= .bG ks us::[.il (lJ ac)])) (by kernel_rfl) (cK.i hz (hs▸h))))
theorem NO(L:LK W)(hd:2<=d){s:Int}{f:Int->Int}(hz:zo ac=true)(hs:lJ ac=[s])
  (H:∀v∈OB,gZ (PV W X hX (d+1) true cB) (k8 bl) (jz pl dc ac 1 b) [[1,s]] [.int v] (f v)):
  WC (PV W X hX (d+2) true cB) 897 [jz pl dc ac 1 b,k8 bl] [] λ v m=>v= .bG [[1,s]] [.int (uh f 1 [2,3])]/\m=[]:=
 NN L hz hs rfl ⟨2,vj (v:= .int s) rfl rfl (qz (Rx hd (ks:=[]) (us:=[]) (.inl ⟨rfl,rfl⟩) (.inl rfl) (.inl rfl) rfl H _ λ o6 x h6=>js (ww rfl rfl ⟨rfl,rfl⟩)))⟩
theorem NP(L:LK W)(hd:2<=d){s:Int}{f:Int->Int}(hz:zo dc=true)(hs:lJ dc=[s])
  (H:∀v∈rV,gZ (PV W X hX (d+1) true cB) (k8 bl) (jz pl dc ac 0 b) [[0,s]] [.int v] (f v)):
  WC (PV W X hX (d+2) true cB) 897 [jz pl dc ac 0 b,k8 bl] [] λ v m=>v= .bG [[0,s]] [.int (uh f 16 rV.tail)]/\m=[]:=
 DL L hz hs rfl ⟨2,vj (v:= .int s) rfl rfl (qz (A0 hd (ks:=[]) (us:=[]) (.inl ⟨rfl,rfl⟩) (.inl rfl) (.inl rfl) rfl H _ λ o6 x h6=>js (ww rfl rfl ⟨rfl,rfl⟩)))⟩
theorem NQ(L:LK W)(hd:2<=d){f:Int->Int}{g:Int->Int->Int}{x:Int}(hx:x=uh f 16 rV.tail)(hm:x∈rV)(hz:zo dc=true)(hs:lJ dc=[0,1])
  (H:∀v∈rV,gZ (PV W X hX (d+1) true cB) (k8 bl) (jz pl dc ac 0 b) [[0,0]] [.int v] (f v))
  (H2:∀u∈rV,∀v∈rV,gZ (PV W X hX (d+1) true cB) (k8 bl) (jz pl dc ac 0 b) [[0,0],[0,1]] [.int u, .int v] (g u v)):
  WC (PV W X hX (d+2) true cB) 897 [jz pl dc ac 0 b,k8 bl] [] λ v m=>v= .bG [[0,0],[0,1]] [.int x, .int (uh (g x) 16 rV.tail)]/\m=[]:=
 DL L hz hs rfl ⟨3,vj (v:= .int 0) rfl rfl (qz (A0 hd (ks:=[]) (us:=[]) (.inl ⟨rfl,rfl⟩) (.inl rfl) (.inl rfl) rfl H _ λ o6 y h6=>js (hx▸vj (v:= .int 1) rfl rfl
  (qz (A0 hd (ks:=[[0,0]]) (us:=[.int x]) (.inr ⟨rfl,rfl,rfl,x,rfl⟩) (.inr ⟨y,rfl⟩) h6 rfl (H2 x hm) _ λ o6 z h6=>js (ww rfl rfl ⟨rfl,rfl⟩))))))⟩
end
structure vX{prog:aK}{w:bw}(W:WK prog w)(bl:ae (ae (Int×ae Int)))(c:ug)(ks:ae (ae Int))(cs:ae Int):Prop where
 r:F_ W bl c ks cs
 k:BC ks cs
 t:∀{X:BM->Prop} {hX:∀G G',dG G G'->X G->X G'} {d:Nat} {cB:xV},LK W->18<=d->WC (PV W X hX (d+2) true cB) 897 [c.v,k8 bl] [] λ v m=>v= .bG ks (bW cs)/\m=[]
section
variable{prog:aK}{w:bw}{W:WK prog w}{bl:ae (ae (Int×ae Int))}{pl dc ac:ae Int}{b s:Int}
theorem Ro{IV sc:AV}{ks:ae (ae Int)}{us:ae Int}{X:BM->Prop}{hX:∀G G',dG G G'->X G->X G'}{d:Nat}{cB:xV}(h:Ii W IV sc ks us)(hd:18<=d):gZ (PV W X hX (d+1) true cB) IV sc ks (bW us) (VW W IV sc ks us):=(AM W h).up (F9 (uN hd))
theorem XX(h:J0 W bl (pl,dc,ac,1,b) 1 s OB)(hz:zo ac=true)(hs:lJ ac=[s]):∃ks cs,vX W bl (pl,dc,ac,1,b) ks cs:=
 ⟨_,_, .one h rfl, .one _ _ _,λ L hd=>NO L (aG (by decide) hd) hz hs λ v hm=>Ro (h.z v hm) hd⟩
theorem Px(h:J0 W bl (pl,dc,ac,0,b) 0 s rV)(hz:zo dc=true)(hs:lJ dc=[s]):∃ks cs,vX W bl (pl,dc,ac,0,b) ks cs:=
 ⟨_,_, .one h (v0:=16) (r:=rV.tail) rfl, .one _ _ _,λ L hd=>NP L (aG (by decide) hd) hz hs λ v hm=>Ro (h.z v hm) hd⟩
theorem abH(h:RH W bl (pl,dc,ac,0,b))(hz:zo dc=true)(hs:lJ dc=[0,1]):∃ks cs,vX W bl (pl,dc,ac,0,b) ks cs:=
 ⟨_,_, .two h rfl, .two _ _,λ L hd=>NQ L (aG (by decide) hd) (g:=λ x v=>VW W (k8 bl) (jz pl dc ac 0 b) [[0,0],[0,1]] [x,v]) rfl (zQ _ _ _) hz hs (λ v hm=>Ro (h.z v hm) hd) λ u hu v hm=>Ro (h.y u hu v hm) hd⟩
def SHs(bl:ae (ae (Int×ae Int)))(two:aC):Prop:=bl.map (·.map (·.1))∈shB two
def WX(bl:ae (ae (Int×ae Int))):Prop:=∀b∈bl,∀p∈b,vW p.2
theorem Ww(hr:WX bl){p:Int}(hs:SHs bl false):(∃ks cs,vX W bl ([p],[0],[0],1,3) ks cs)/\∃ks cs,vX W bl ([p],[0],[1],1,3) ks cs:=
 ⟨XX (s:=0) ⟨.inr ⟨rfl,rfl⟩,si (ac:=[]) (.head _) rfl,λ v hv=>uH (ac:=[]) (.head _) rfl (.head _) hs hr (.cons (oQ (RU v hv)) rfl)⟩ rfl rfl,XX (s:=1) ⟨.inr ⟨rfl,rfl⟩,si (ac:=[]) (.tail _ (.head _)) rfl,λ v hv=>uH (ac:=[]) (.tail _ (.head _)) rfl (.head _) hs hr (.cons (oQ (RU v hv)) rfl)⟩ rfl rfl⟩
theorem Sc(hr:WX bl){p:Int}{ac:ae Int}(hs:SHs bl false):(∃ks cs,vX W bl ([p],[0],ac,0,0) ks cs)/\∃ks cs,vX W bl ([p],[1],ac,0,0) ks cs:=
 ⟨Px (s:=0) ⟨.inl ⟨rfl,rfl⟩,si (ac:=ac) (.tail _ (.tail _ (.head _))) rfl,λ v hv=>uH (ac:=ac) (.tail _ (.tail _ (.head _))) rfl (.head _) hs hr (.cons (oQ (wk v hv)) rfl)⟩ rfl rfl,Px (s:=1) ⟨.inl ⟨rfl,rfl⟩,si (ac:=ac) (.tail _ (.tail _ (.tail _ (.head _)))) rfl,λ v hv=>uH (ac:=ac) (.tail _ (.tail _ (.tail _ (.head _)))) rfl (.head _) hs hr (.cons (oQ (wk v hv)) rfl)⟩ rfl rfl⟩
theorem g_C(hr:WX bl){ac:ae Int}(hs:SHs bl true):(∃ks cs,vX W bl ([0,1],[0,0],ac,0,0) ks cs)/\∃ks cs,vX W bl ([0,1],[1,1],ac,0,0) ks cs:=
 ⟨Px (s:=0) ⟨.inl ⟨rfl,rfl⟩,si (ac:=ac) (.tail _ (.tail _ (.tail _ (.tail _ (.head _))))) rfl,λ v hv=>uH (ac:=ac) (.tail _ (.tail _ (.tail _ (.tail _ (.head _))))) rfl (.head _) hs hr (.cons (oQ (wk v hv)) rfl)⟩ rfl rfl,Px (s:=1) ⟨.inl ⟨rfl,rfl⟩,si (ac:=ac) (.tail _ (.tail _ (.tail _ (.tail _ (.tail _ (.head _)))))) rfl,λ v hv=>uH (ac:=ac) (.tail _ (.tail _ (.tail _ (.tail _ (.tail _ (.head _)))))) rfl (.head _) hs hr (.cons (oQ (wk v hv)) rfl)⟩ rfl rfl⟩
theorem g_D{e:Kd}(hr:WX bl)(hs:SHs bl true)(he:e∈E1 pl ac)(hc:e.sc=ug.v (pl,dc,ac,0,0))(h2:e.two=true)(hk:e.ks=[[0,0],[0,1]])(hl:e.lo=0)(hh:e.hi=85)(hz:zo dc=true)(hd:lJ dc=[0,1]):∃ks cs,vX W bl (pl,dc,ac,0,0) ks cs:=by
 obtain⟨sc,two,ks,lo,hi⟩:=e
 obtain rfl:sc=_:=hc
 obtain rfl:two=true:=h2
 obtain rfl:ks=_:=hk
 obtain rfl:lo=0:=hl
 obtain rfl:hi=85:=hh
 exact abH ⟨si he rfl,λ v hv=>uH he rfl (.head _) hs hr (.cons (oQ (wk v hv)) rfl),λ u hu v hv=>uH he rfl (.tail _ (.head _)) hs hr (.cons (oQ (wk u hu)) (.cons (oQ (wk v hv)) rfl))⟩ hz hd
theorem VF{two:aC}{s:ae Int}(hr:WX bl):∀x∈jA two s,bl.map (·.map (·.1))∈oy x.1.1->∃ks cs,vX W bl x.1 ks cs:=by
 cases two
 ·exact all2 (λ h=>(Ww hr h).1) (all2 (λ h=>(Ww hr h).2) (all2 (λ h=>(Sc hr h).1) (all2 (λ h=>(Sc hr h).2) (all2 (λ h=>(Sc hr h).1) (all2 (λ h=>(Sc hr h).2) (sq))))))
 ·exact all2 (λ h=>(Ww hr h).1) (all2 (λ h=>(Ww hr h).2) (all2 (λ h=>(Ww hr h).1) (all2 (λ h=>(Ww hr h).2) (all2 (λ h=>(Sc hr h).1) (all2 (λ h=>(Sc hr h).2) (all2 (λ h=>(Sc hr h).1) (all2 (λ h=>(Sc hr h).2) (all2 (λ h=>(g_C hr h).1) (all2 (λ h=>g_D hr h (.tail _ (.tail _ (.tail _ (.tail _ (.tail _ (.tail _ (.head _))))))) rfl rfl rfl rfl rfl rfl rfl) (all2 (λ h=>g_D hr h (.tail _ (.tail _ (.tail _ (.tail _ (.tail _ (.tail _ (.tail _ (.head _)))))))) rfl rfl rfl rfl rfl rfl rfl) (all2 (λ h=>(g_C hr h).2) (sq))))))))))))
end
noncomputable def Dd(B k:Nat)(d:Int):Prop:=0<=d/\d.natAbs < 2 ^ (k * B)
theorem za{B k:Nat}{d s:Int}(h:Dd B k d)(h0:0<=s)(hs:s.natAbs < 2 ^ B):Dd B (k+1) (d * s+s):=by
 obtain⟨h1,h2⟩:=h
 obtain⟨d,rfl⟩:=pu h1
 obtain⟨s,rfl⟩:=pu h0
 have e:(d:Int) * (s:Int)+(s:Int)=((d * s+s:Nat):Int):=by simp
 rw[e]
 refine⟨kj _,?_⟩
 simp only[Int.natAbs_natCast] at h2 hs ⊢
 rw[show d * s+s=(d+1) * s by rw[Nat.add_mul,H7],show(k+1) * B=k * B+B by rw[Nat.add_mul,H7],Nat.pow_add]
 exact aT (H6 s h2) (Nat.mul_lt_mul_of_pos_left hs (Nat.pow_pos (by decide)))
theorem Hp{B k:Nat}{d:Int}(h:Dd B k d):Dd B (k+1) d:=
 ⟨h.1,fj h.2 (rD (by decide) (H6 B (xE k)))⟩
theorem SH{B k:Nat}{d s:Int}(hB:B<=1048576)(hk:k<=63)(h:Dd B k d)(hs:s.natAbs < 2 ^ B):jF d s:=by
 refine Jx (tt.mpr h.2) (tt.mpr hs) ?_
 have:k * B<=63 * 1048576:=Nat.mul_le_mul hk hB
 generalize k * B=x at this
 omega
section
variable{prog:aK}{w:bw}{W:WK prog w}{X:BM->Prop}{hX:∀G G',dG G G'->X G->X G'}{j:aC}{cB:xV}{d:Nat}
noncomputable def mxP(m s:Int):Int:=(m * 48271+s.fmod 2147483629+7919).fmod 2147483647
theorem I6{B k:Nat}(hB:B<=1048576)(hk:k<=62){ns:ae Int}{dg m v:Int}{o:AV}(hd:Dd B k dg)(hv:v.natAbs < 2 ^ B):
  ∃Wr s,Dd B (k+1) Wr/\∀K:Fl->St->Prop,K .d8 ⟨[.row ns, .int Wr, .int (mxP m s), .int v, .int s],[]⟩->(rh (PV W X hX (d+1) j cB)).run ⟨[.row ns, .int dg, .int m, .int v,o],[]⟩ K:=by
 cases e:decide (v>=0) with
 |true=>
  have h0:0<=v:=bg e
  cases e2:decide (v>=(10:Int) ^ gQ 18) with
  |true=>
   refine⟨dg * v+v,v,za hd h0 hv,λ K hK=>?_⟩
   conv=>whnf
   rw[e]
   conv=>whnf
   refine⟨⟨by decide,by decide⟩,?_⟩
   conv=>whnf
   rw[e2]
   conv=>whnf
   refine⟨SH hB (by omega) hd hv,?_⟩
   conv=>whnf
   refine⟨j8 (by decide),?_⟩
   conv=>whnf
   refine⟨by decide,?_⟩
   conv=>whnf
   refine⟨by decide,?_⟩
   exact hK
  |false=>
   refine⟨dg,v,Hp hd,λ K hK=>?_⟩
   conv=>whnf
   rw[e]
   conv=>whnf
   refine⟨⟨by decide,by decide⟩,?_⟩
   conv=>whnf
   rw[e2]
   conv=>whnf
   refine⟨j8 (by decide),?_⟩
   conv=>whnf
   refine⟨by decide,?_⟩
   conv=>whnf
   refine⟨by decide,?_⟩
   exact hK
 |false=>
  have h0:¬(v>=0):=oH e
  have hs0:0<=-1 - v:=by omega
  have hs:(-1 - v).natAbs < 2 ^ B:=aT (by omega) hv
  cases e2:decide ((-1 - v)>=(10:Int) ^ gQ 18) with
  |true=>
   refine⟨dg * (-1 - v)+(-1 - v),(-1 - v),za hd hs0 hs,λ K hK=>?_⟩
   conv=>whnf
   rw[e]
   conv=>whnf
   refine⟨⟨by decide,by decide⟩,?_⟩
   conv=>whnf
   rw[e2]
   conv=>whnf
   refine⟨SH hB (by omega) hd hs,?_⟩
   conv=>whnf
   refine⟨j8 (by decide),?_⟩
   conv=>whnf
   refine⟨by decide,?_⟩
   conv=>whnf
   refine⟨by decide,?_⟩
   exact hK
  |false=>
   refine⟨dg,(-1 - v),Hp hd,λ K hK=>?_⟩
   conv=>whnf
   rw[e]
   conv=>whnf
   refine⟨⟨by decide,by decide⟩,?_⟩
   conv=>whnf
   rw[e2]
   conv=>whnf
   refine⟨j8 (by decide),?_⟩
   conv=>whnf
   refine⟨by decide,?_⟩
   conv=>whnf
   refine⟨by decide,?_⟩
   exact hK
theorem CU{P:cC}{v:AV}{σ:St}{K:St->Prop}(h:K (σ.set 3 v)):(rj P).set v σ K:=h
theorem zd{B:Nat}(hB:B<=1048576){ns:ae Int}:∀(l:ae Int) (k i:Nat) (dg m:Int) (n o:AV),k+l.length<=63->Dd B k dg->(∀v∈l,v.natAbs < 2 ^ B)->
  ∃Wr m' n' o',∀K:Fl->St->Prop,K .d8 ⟨[.row ns, .int Wr, .int m',n',o'],[]⟩->jq (rj (PV W X hX (d+1) j cB)).set (rh (PV W X hX (d+1) j cB)).run (l.length+1) (.fz i (bW l)) ⟨[.row ns, .int dg, .int m,n,o],[]⟩ K
 |[],k,i,dg,m,n,o,_,_,_=>⟨dg,m,n,o,λ K h=>h⟩
 |v::r,k,i,dg,m,n,o,hk,hd,hl=>by
  have hk:k+(r.length+1)<=63:=hk
  obtain⟨dg1,s1,hd1,h1⟩:=I6 (W:=W) (X:=X) (hX:=hX) (j:=j) (cB:=cB) (d:=d) hB (by omega) (ns:=ns) (m:=m) (o:=o) hd (hl v aR)
  obtain⟨Wr,m',n',o',h2⟩:=zd hB r (k+1) (i+1) dg1 (mxP m s1) (.int v) (.int s1) (by omega) hd1 (λ x hx=>hl x (aP _ hx))
  exact⟨Wr,m',n',o',λ K hK=>mu (CU (h1 _ (js (h2 K hK))))⟩
theorem Vj{B:Nat}(hB:B<=1048576){ns:ae Int}(hn:ns.length<=63)(hl:∀v∈ns,v.natAbs < 2 ^ B):
  ∃x y,WC (PV W X hX (d+2) j cB) 858 [.row ns] [] λ v m=>v= .own 0/\m=[.lst [.int x, .int y]]:=by
 obtain⟨x,y,n,o,h⟩:=zd (W:=W) (X:=X) (hX:=hX) (j:=j) (cB:=cB) (d:=d) hB (ns:=ns) ns 0 0 0 97 .undef .undef (by omega) ⟨dT _,by rw[Nat.zero_mul]; decide⟩ hl
 obtain⟨v,m,⟨rfl,rfl⟩,z⟩:=qv (W:=W) (X:=X) (hX:=hX) (j:=j) (cB:=cB) (d:=d) (i:=51) (e:=fe 858 hN ["script"] wa) (vs:=[.row ns]) (m:=[]) (I:=λ v m=>v= .own 0/\m=[.lst [.int x, .int y]]) rfl rfl rfl
  ⟨(.own 0,[.lst [.int x, .int y]]),⟨rfl,rfl⟩,λ K hK=>by
   conv=>whnf
   refine⟨ns.length+1,h _ ?_⟩
   exact hK⟩
 exact⟨x,y,z⟩
theorem uz{G:BM}{ρ:ae au}:∀{l:ae Int} {vs:ae ak},bJ G ρ (bW l) vs->cx l vs
 |[],vs=>id
 |n::r,vs=>λ h=>bJ.uc (Q:=λ vs=>cx (n::r) vs) h λ v us hv h=>hv.iu (Q:=λ v=>cx (n::r) (v::us)) λ t=>(uz h).cons
theorem WC.il{P:cC}{f:au}{vs:ae AV}{l:ae Int}(h:WC P f vs [] λ v m=>v= .own 0/\m=[.lst (bW l)]):WC P f vs [] λ v m=>v= .own 0/\m=[.il l]:=by
 refine⟨λ A G ρ s us r p m v=>X.el (h.run A G ρ s us r p m v) (oq λ v s' z=>?_)⟩
 obtain⟨G',ρ',av,mem',⟨a,b,c,d,rfl,rfl⟩,q1,q2,q3,q4⟩:=z
 refine⟨G',ρ', .own 0,[.il l],⟨a,b,⟨c.kg,c.len,λ i x ao hx X5=>?_,c.nd,c.fr⟩,d,rfl,rfl⟩,q1,q2,q3,q4⟩
 match i,X5 with
 |0,X5=>
  cases X5
  obtain⟨o,h1,us,h2,h3⟩:=c.obj 0 x (.lst (bW l)) hx rfl
  exact⟨o,h1,us,h2,uz h3⟩
theorem Qz{B:Nat}(hB:B<=1048576){ns:ae Int}(hn:ns.length<=63)(hl:∀v∈ns,v.natAbs < 2 ^ B):
  ∃r:ae Int,r.length=2/\WC (PV W X hX (d+2) j cB) 858 [.row ns] [] λ v m=>v= .own 0/\m=[.il r]:=by
 obtain⟨x,y,h⟩:=Vj (W:=W) (X:=X) (hX:=hX) (j:=j) (cB:=cB) (d:=d) hB hn hl
 exact⟨[x,y],rfl,WC.il h⟩
end
theorem zc:∀l:ae (Int×ae Int),o8 (l.map qW)=true
 |[]=>rfl
 |_::r=>zc r
theorem Df:∀l:ae (ae (Int×ae Int)),o8 (l.map λ b=> .lst (b.map qW))=true
 |[]=>rfl
 |b::r=>bN.mpr ⟨zc b,Df r⟩
theorem GB:∀l:ae (Int×ae Int),zV (l.map qW)<=2
 |[]=>by decide
 |_::r=>Nat.max_le.mpr ⟨cF 2,GB r⟩
theorem KT:∀l:ae (ae (Int×ae Int)),zV (l.map λ b=> .lst (b.map qW))<=3
 |[]=>by decide
 |b::r=>Nat.max_le.mpr ⟨eH (GB b),KT r⟩
theorem B5:∀l:ae Int,zV (bW l)=0
 |[]=>rfl
 |_::r=>(Nat.zero_max _).trans (B5 r)
theorem wV:∀l:ae Int,o8 (bW l)=true
 |[]=>rfl
 |_::r=>wV r
theorem w0(f:Nat->Nat):∀l:ae (ae Int),eu f (l.map AV.row)=l.map AV.row
 |[]=>rfl
 |x::r=>ah (AV.row x::·) (w0 f r)
theorem CH:∀l:ae Int,tg (bW l)
 |[]=>trivial
 |x::r=>⟨⟨x,rfl⟩,CH r⟩
theorem BY{a:AV}{xs:ae AV}{m:ae AO}{K:aC->Prop}(ha:∀C,ng a m C=C xs)(p:o8 xs=true)(d:zV xs<=3)(h:K false):ra .N8 a a m K:=
 (ha _).mpr ((ha _).mpr (.inl ⟨rfl,p,aT d (by decide),h⟩))
structure Of(P:cC)(fr gv rv:AV)(iv:Int)(o:Bb)(bl:ae (ae (Int×ae Int))):Prop where
 ks:BC o.ks o.cs
 a:WC P 892 [fr,o.v,rv, .int iv] [] λ v m=>v=k8 bl/\m=[]
 b:WC P 675 [fr,gv,o.v, .int iv] [] λ v m=>v=k8 bl/\m=[]
 c:WC P 897 [o.v,k8 bl] [] λ v m=>v= .bG o.ks (bW o.cs)/\m=[]
noncomputable def U3(ns:ae Int)(fr g rv:AV)(iv:Int)(a8 a9 a10 a11:AV):ae AV:=[.row ns, .own 1,fr,g,rv, .own 2, .int iv, .own 3,a8,a9,a10,a11]
noncomputable def Dq(rk:ae (ae Int))(ru:ae AV):AV:= .bG rk ru
section
variable{prog:aK}{w:bw}{W:WK prog w}{X:BM->Prop}{hX:∀G G',dG G G'->X G->X G'}{n:Nat}{ns r:ae Int}{fa wd iv:Int}{two:aC}{ps ru:ae AV}{rk:ae (ae Int)}{xs:ae Bb}
def YI(ns r:ae Int)(fr g rv:AV)(iv:Int)(xs:ae Bb)(a:AV×AV×AV×AV)(f:F6):St:=⟨U3 ns fr g rv iv a.1 a.2.1 a.2.2.1 a.2.2.2,[.tab, .il r, .lst (xs.map (·.v)), .bG f.1 (bW f.2)]⟩
theorem Qc(ES:∀f,eu f ps=ps)(hrv:∀f,eu f ru=ru){o:Bb}{a:AV×AV×AV×AV}{f:F6}{m:Nat}{K:Fl->St->Prop}(h:∃bl,Of (PV W X hX n true bR) (jw fa two wd) (gI ps) (Dq rk ru) iv o bl)(hf:JE f m)(hm:m+2<=1000)
  (hK:∀a,K .d8 (YI ns r (jw fa two wd) (gI ps) (Dq rk ru) iv xs a (mg f o.ks o.cs))):(CR (PV W X hX n true bR)).set o.v (YI ns r (jw fa two wd) (gI ps) (Dq rk ru) iv xs a f) λ σ=>(CJ (PV W X hX n true bR)).run σ K:=
 h.elim λ bl h=>
 have rr (f:Nat->Nat):eu f [Dq rk ru, .int iv]=[Dq rk ru, .int iv]:=ah (λ l=>[AV.bG rk l, .int iv]) (hrv f)
 have ro (f:Nat->Nat):eu f [o.v, .int iv]=[o.v, .int iv]:=rfl
 nf (B:=WC (PV W X hX n true bR) 892 [jw fa two wd,o.v,Dq rk ru, .int iv] [.tab, .il r, .lst (xs.map (·.v)), .bG f.1 (bW f.2)] λ v m=>(acC (PV W X hX n true bR)).run ⟨U3 ns (jw fa two wd) (gI ps) (Dq rk ru) iv o.v v a.2.2.1 a.2.2.2,m⟩ K) (by kernel_rfl)
 ((WC.anyM h.a (λ f=>MP (rZ f) rfl (rr f)) (λ f=>r5 f bl) _).known
 (nf (B:=WC (PV W X hX n true bR) 675 [jw fa two wd,gI ps,o.v, .int iv] [.tab, .il r, .lst (xs.map (·.v)), .bG f.1 (bW f.2)] λ v m=>ra .N8 v (k8 bl) m λ b=>aX b (K (.ret (.bool false)) ⟨U3 ns (jw fa two wd) (gI ps) (Dq rk ru) iv o.v (k8 bl) a.2.2.1 a.2.2.2,m⟩) ((acD (PV W X hX n true bR)).run ⟨U3 ns (jw fa two wd) (gI ps) (Dq rk ru) iv o.v (k8 bl) a.2.2.1 a.2.2.2,m⟩ K)) (by kernel_rfl)
 ((WC.anyM h.b (λ f=>MP (rZ f) (z_ (ES f)) rfl) (λ f=>r5 f bl) _).known (BY (λ aa=>rfl) (Df bl) (KT bl)
 (nf (B:=WC (PV W X hX n true bR) 897 [o.v,k8 bl] [.tab, .il r, .lst (xs.map (·.v)), .bG f.1 (bW f.2)] λ v m=>(acE (PV W X hX n true bR)).run ⟨U3 ns (jw fa two wd) (gI ps) (Dq rk ru) iv o.v (k8 bl) v a.2.2.2,m⟩ K) (by kernel_rfl)
 ((WC.anyM h.c (λ f=>MP rfl (r5 f bl) rfl) (λ f=>ah (AV.bG o.ks) (sW f _)) _).known
 (nf (B:=∃N,jq (Mi (PV W X hX n true bR)).set (L6 (PV W X hX n true bR)).run N (.keys 0 o.ks) (YI ns r (jw fa two wd) (gI ps) (Dq rk ru) iv xs (o.v,k8 bl, .bG o.ks (bW o.cs),a.2.2.2) f) (pI (lK (P:=PV W X hX n true bR) (ct:=dL)) K)) (by kernel_rfl)
 ⟨3,G1 (S:=λ x u v=>⟨U3 ns (jw fa two wd) (gI ps) (Dq rk ru) iv o.v (k8 bl) (.bG o.ks (bW o.cs)) x,[.tab, .il r, .lst (xs.map (·.v)), .bG u v]⟩) h.ks (λ x a b f K h=>nf (by kernel_rfl) h) hf hm λ x=>hK (_,_,_,x)⟩)))))))
end
section
variable{prog:aK}{w:bw}{W:WK prog w}{X:BM->Prop}{hX:∀G G',dG G G'->X G->X G'}{n:Nat}
def Wq(P:cC):CL P (F1.ct dL):=TJ (xn 1 p0) (eZ 1 p0) (S1 (DO (eZ 2 p0) 41 p0 (iS (FO (eZ 1 p0) (ym 0 p0) p0) (iS (FO (eZ 1 p0) (ym 1 p0) p0) (iS (FO (eZ 1 p0) (ym 2 p0) p0) qZ))) p0) .N8 (FO (eZ 3 p0) (eZ 1 p0) p0) p0)
inductive BD(P:cC)(gv:AV)(rk:ae (ae Int))(ru:ae AV):ae Int->Prop
 |mk (a b c:Int) (r:ae Int) (h:wJ rk ru [a,b,c]=af (.row r)) (w:WC P 802 [gv, .int a, .int b, .int c] [] λ v m=>v= .row r/\m=[]):BD P gv rk ru [a,b,c]
noncomputable def zF(P:cC)(gv:AV)(rk:ae (ae Int))(ru:ae AV):Prop:=∀k∈rk,BD P gv rk ru k
theorem EE{set:AV->St->(St->Prop)->Prop}{b:JD}{n k:Nat}{v:ae Int}{r:ae (ae Int)}{σ:St}{K:St->Prop}(h:set (.tup (bW v)) σ λ aI=>b aI λ aV=>li set b n (.keys (k+1) r) aV K):li set b (n+1) (.keys k (v::r)) σ K:=h
theorem Iw{set:AV->St->(St->Prop)->Prop}{b:JD}{n k:Nat}{σ:St}{K:St->Prop}(h:K σ):li set b (n+1) (.keys k []) σ K:=h
theorem O0{ps ru:ae AV}{rk:ae (ae Int)}(ES:∀f,eu f ps=ps){x0 x1:AV}{m0 m1 m2 m3 m4:AO}{k:ae Int}{C:St->Prop}(h:BD (PV W X hX n true bR) (gI ps) rk ru k)(hC:C ⟨[x0, .tup (bW k),gI ps, .bG rk ru],[m0,m1,m2,m3,m4, .lst []]⟩):
  (Wq (PV W X hX n true bR)).mQ.set (.tup (bW k)) ⟨[x0,x1,gI ps, .bG rk ru],[m0,m1,m2,m3,m4, .lst []]⟩ λ σ=>(Wq (PV W X hX n true bR)).body 5 σ C:=by
 cases h with
 |mk a b c r hl hw=>
  exact nf (B:=WC (PV W X hX n true bR) 802 [gI ps, .int a, .int b, .int c] [m0,m1,m2,m3,m4, .lst []] λ v m=>I1 (wJ rk ru [a,b,c]) λ u=>ra .N8 v u m λ bb=>aX bb (sB (P:=PV W X hX n true bR) (ct:=F1.ct dL) (eZ 1 p0) 5 ⟨[x0, .tup (bW [a,b,c]),gI ps, .bG rk ru],m⟩ C) (C ⟨[x0, .tup (bW [a,b,c]),gI ps, .bG rk ru],m⟩)) (by kernel_rfl)
   ((WC.anyM hw (λ f=>MP (z_ (ES f)) rfl rfl) (λ f=>rfl) _).known (se hl<|BY (a:= .row r) (xs:=bW r) (λ aa=>rfl) (wV r) (aG (aU (B5 r)) (oA 3)) hC))
theorem Gu{ps ru:ae AV}{rk:ae (ae Int)}(ES:∀f,eu f ps=ps){x0:AV}{m0 m1 m2 m3 m4:AO}{K:St->Prop}(hK:∀x1,K ⟨[x0,x1,gI ps, .bG rk ru],[m0,m1,m2,m3,m4, .lst []]⟩):∀(rest:ae (ae Int)) (i:Nat) (x1:AV),(∀k∈rest,BD (PV W X hX n true bR) (gI ps) rk ru k)->
  li (Wq (PV W X hX n true bR)).mQ.set ((Wq (PV W X hX n true bR)).body 5) (rest.length+1) (.keys i rest) ⟨[x0,x1,gI ps, .bG rk ru],[m0,m1,m2,m3,m4, .lst []]⟩ K
 |[],i,x1,_=>Iw (hK x1)
 |k::rest,i,x1,H=>EE (O0 ES (H k aR) (Gu ES hK rest (i+1) _ λ k hk=>H k (aP _ hk)))
end
def n6(v:AV)(m:ae AO):Prop:=v= .bool true/\bM m 0=af .tab
theorem Fq(f:Nat->Nat):∀l:ae Bb,eu f (l.map (·.v))=l.map (·.v)
 |[]=>rfl
 |o::r=>ah (o.v::·) (Fq f r)
section
variable{prog:aK}{w:bw}{W:WK prog w}{X:BM->Prop}{hX:∀G G',dG G G'->X G->X G'}{n:Nat}{ns r:ae Int}{fa wd iv:Int}{two:aC}{ps ru:ae AV}{rk:ae (ae Int)}{l:ae Bb}
theorem pg.fit{P:cC}{f:au}{dx qV:ae AV}{mem:ae AO}{K:AV->ae AO->Prop}(h:pg P f dx mem K)(e:dx=qV):pg P f qV mem K:=e▸h
theorem Xv{α β γ:Type}(f:α->β->γ){a a':α}{b b':β}(h:a=a')(k:b=b'):f a b=f a' b':=congr (ah f h) k
theorem PH(ES:∀f,eu f ps=ps)(hl:l.length < 100)(H:∀o∈l,GcA (PV W X hX (n+1) true bR) (jw fa two wd) (gI ps) iv o)(D:AO):
  pg (PV W X hX (n+2) true bR) 689 [jw fa two wd,gI ps, .own 2, .int iv] [.tab, .il r, .lst (l.map (·.v)),D] λ v m=>v= .own 4/\m=[.tab, .il r, .lst (l.map (·.v)),D, .bG (Hc ([],[]) l).1 (bW (Hc ([],[]) l).2)]:=
 have g:=pg.B6 (Us (W:=W) (X:=X) (hX:=hX) (n:=n) ES l hl H) [0,2] [.tab, .il r, .lst (l.map (·.v)),D] rfl (by decide) rfl (λ i j ao hi hj=>match i,hi,hj with
  |0,hi,hj=>am hi▸am hj▸rfl
  |1,hi,hj=>am hi▸am hj▸ah (λ l=>af (AO.lst l)) (Fq _ l).symm)
 pg.fit (pg.mono g λ v m z=>z.elim λ v0 z=>z.elim λ m0 z=>⟨z.2.1.trans (ah (ew _) z.1.1),z.2.2.1.trans ((ah (upd _ _ · _) z.1.2).trans
  (Xv (λ x y=>[AO.tab, .il r, .lst x,D, .bG (Hc ([],[]) l).1 y]) (Fq (eU [0,2] 4) l) (sW (eU [0,2] 4) _)))⟩) (by
  show[ew _ (jw fa two wd),ew _ (gI ps), .own 2, .int iv]=_
  rw[rZ,z_ (ES _)])
theorem L3(ES:∀f,eu f ps=ps)(hrv:∀f,eu f ru=ru)(l:ae Bb)(hl:l.length < 100)
  (H:∀o∈l,∃bl,Of (PV W X hX (n+2) true bR) (jw fa two wd) (gI ps) (Dq rk ru) iv o bl)
  (H2:∀o∈l,GcA (PV W X hX (n+1) true bR) (jw fa two wd) (gI ps) iv o)
  (HR:zF (PV W X hX (n+2) true bR) (gI ps) rk ru):
  (YA (PV W X hX (n+2) true bR)).run (YI ns r (jw fa two wd) (gI ps) (Dq rk ru) iv l (.undef, .undef, .undef, .undef) ([],[])) (iE n6):=
 nf (B:=∃N,jq (CR (PV W X hX (n+2) true bR)).set (CJ (PV W X hX (n+2) true bR)).run N (.own 2 0) (YI ns r (jw fa two wd) (gI ps) (Dq rk ru) iv l (.undef, .undef, .undef, .undef) ([],[])) (pI (YB (PV W X hX (n+2) true bR)) (iE n6))) (by kernel_rfl)
 ⟨_,w_ (p:=2) (A:=λ o=>∃bl,Of (PV W X hX (n+2) true bR) (jw fa two wd) (gI ps) (Dq rk ru) iv o bl) (λ aa aa=>rfl) (λ o h=>h.elim λ aa h=>h.ks) (λ o a f m K h hf hm hK=>Qc ES hrv h hf hm hK) l [] 0 _ ([],[]) 0 rfl rfl ⟨rfl,cF _⟩ (aG (fF (aG (aU (fy _)) (jE 2 (eX hl))) 2) (by decide)) H λ a=>
  nf (B:=pg (PV W X hX (n+2) true bR) 689 [jw fa two wd,gI ps, .own 2, .int iv] [.tab, .il r, .lst (l.map (·.v)), .bG (Hc ([],[]) l).1 (bW (Hc ([],[]) l).2)] λ v m=>Xu v (.own 3) m λ b=>aX b (n6 (.bool false) m) ((YC (PV W X hX (n+2) true bR)).run ⟨U3 ns (jw fa two wd) (gI ps) (Dq rk ru) iv a.1 a.2.1 a.2.2.1 a.2.2.2,m⟩ (iE n6))) (by kernel_rfl)
   ((PH ES hl H2 _).known ⟨rfl,rfl,CH _,nf (B:=∃N,li (Wq (PV W X hX (n+2) true bR)).mQ.set ((Wq (PV W X hX (n+2) true bR)).body 5) N (.keys 0 rk) ⟨[.undef, .undef,gI ps, .bG rk ru],[.tab, .il r, .lst (l.map (·.v)), .bG (Hc ([],[]) l).1 (bW (Hc ([],[]) l).2), .bG (Hc ([],[]) l).1 (bW (Hc ([],[]) l).2), .lst []]⟩ λ σ=>ra .sn (.own 5) (.own σ.mem.length) (σ.mem++[AO.lst []]) λ b=>n6 (.bool b) (σ.mem++[AO.lst []])) (by kernel_rfl)
    ⟨_,Gu ES (λ aa=>Or.inl ⟨rfl,rfl,by decide,rfl,rfl⟩) rk 0 .undef HR⟩⟩)⟩
end
theorem WC.src{P:cC}{f:au}{vs vs':ae AV}{v0:AV}{r r':ae Int}{M M':ae AO}{K:AV->ae AO->Prop}(p:Nat)(h:WC P f vs [.il r] λ v m=>v=v0/\m=[.il r'])(hv:vs'=eu (eU [p] M.length) vs)(hs:sY [p] M.length=true)(hp:i2 (bM M) [p]=af [.il r])
  (hc:∀f,ew f v0=v0) (hM:bz M p (.il r')=M') (k:K v0 M'):WC P f vs' M K:=
 WC.FM [p] h hv hs rfl hp ((hc _).symm▸(hM▸bS _:upd (eU [p] M.length) [p] [.il r'] M=M').symm▸k)
section
variable{prog:aK}{w:bw}{W:WK prog w}{X:BM->Prop}{hX:∀G G',dG G G'->X G->X G'}
structure WZ(W:WK prog w)(X:BM->Prop)(hX:∀G G',dG G G'->X G->X G')(fr gv rv:AV)(iv:Int)(o:Bb):Prop where
 lw:∃bl,Of (PV W X hX 26 true bR) fr gv rv iv o bl
 gc:GcA (PV W X hX 25 true bR) fr gv iv o
theorem QV(U:UK W)(L:LK W){c:Int×aC×Int}(hc:c∈iZ){cs:ae (aC×ae Int)}(hl:cs.length=(bi c).1+(bi c).2)(h:∀c∈cs,nH c){s:ae Int}{x:ug×ae Int}(hx:x∈jA c.2.1 s){iv:Int}(hi:iv=0\/iv=1\/iv=2):
  ∃o:Bb,o.v=x.1.v/\WZ W X hX (jw c.1 c.2.1 c.2.2) (sE c.2.1 (bi c).1 cs) (ox c.2.1 (bi c).1 (bi c).2 (cs.map (·.2))) iv o:=
 (UJ (W:=W) (X:=X) (hX:=hX) U hc hl h (QW _ _ x hx) hi).elim λ bl I=>(VF (W:=W) (λ b hb p hp=>(dN.mp (I.rok b hb p hp)).elim λ y hy=>hy.2▸(h y hy.1).1) x hx I.shp).elim λ ks z=>z.elim λ vs R=>
  ⟨⟨x.1,ks,vs⟩,rfl,⟨bl,R.k,(I.law _ _ _ _).up (PGU (by decide)),(I.own _ _ _ _).up (PGU (by decide)),R.t (d:=24) L (by decide)⟩,
   R.k,Je (hX:=hX) (Ad h) I (BB vs) λ lf=>KE (hX:=hX) R.r lf⟩
theorem ia{n:Nat}{R:ae (ae (ae (ae Int)))}{g:AV}{rk:ae (ae Int)}{ru:ae AV}(hg:m8 R g){a b d:Int}(ha:Ah a=true)(hb:Ah b=true)(hd:Ah d=true){Lr:ae (ae (ae Int))}{C:ae (ae Int)}{r:ae Int}(e1:Lf R a.toNat=af Lr)(e2:Lf Lr d.toNat=af C)(e3:Lf C b.toNat=af r)(e4:wJ rk ru [a,b,d]=af (.row r)):BD (PV W X hX (n+2) true bR) g rk ru [a,b,d]:=
 (Se (W:=W) (X:=X) (hX:=hX) (j:=true) (cB:=bR) (d:=n) hg ha hb hd e1 e2 e3).elim λ v z=>z.elim λ m z=>⟨a,b,d,r,e4,z.1.1▸z.1.2▸z.2⟩
theorem QQ{n:Nat}:∀c∈iZ,∀(ρ:Nat->ae Int) (gv:AV),m8 (ot c.2.1 (bi c).1 ((eA ((bi c).1+(bi c).2)).map ρ)) gv->zF (PV W X hX (n+2) true bR) gv (Dm c.2.1 (bi c).1 (bi c).2) (((eA ((bi c).1+(bi c).2)).map ρ).map AV.row):=
 all2 (λ ρ gv g=>all2 (ia g rfl rfl rfl rfl rfl rfl rfl) (sq)) (all2 (λ ρ gv g=>all2 (ia g rfl rfl rfl rfl rfl rfl rfl) (all2 (ia g rfl rfl rfl rfl rfl rfl rfl) (sq))) (all2 (λ ρ gv g=>all2 (ia g rfl rfl rfl rfl rfl rfl rfl) (all2 (ia g rfl rfl rfl rfl rfl rfl rfl) (sq))) (all2 (λ ρ gv g=>all2 (ia g rfl rfl rfl rfl rfl rfl rfl) (all2 (ia g rfl rfl rfl rfl rfl rfl rfl) (all2 (ia g rfl rfl rfl rfl rfl rfl rfl) (all2 (ia g rfl rfl rfl rfl rfl rfl rfl) (sq))))) (all2 (λ ρ gv g=>all2 (ia g rfl rfl rfl rfl rfl rfl rfl) (all2 (ia g rfl rfl rfl rfl rfl rfl rfl) (sq))) (all2 (λ ρ gv g=>all2 (ia g rfl rfl rfl rfl rfl rfl rfl) (all2 (ia g rfl rfl rfl rfl rfl rfl rfl) (sq))) (all2 (λ ρ gv g=>all2 (ia g rfl rfl rfl rfl rfl rfl rfl) (all2 (ia g rfl rfl rfl rfl rfl rfl rfl) (all2 (ia g rfl rfl rfl rfl rfl rfl rfl) (sq)))) (all2 (λ ρ gv g=>all2 (ia g rfl rfl rfl rfl rfl rfl rfl) (all2 (ia g rfl rfl rfl rfl rfl rfl rfl) (all2 (ia g rfl rfl rfl rfl rfl rfl rfl) (sq)))) (sq))))))))
theorem MY{c:Int×aC×Int}(hc:c∈iZ){cs:ae (aC×ae Int)}(hl:cs.length=(bi c).1+(bi c).2)(h:∀c∈cs,nH c){n:Nat}:
  zF (PV W X hX (n+2) true bR) (sE c.2.1 (bi c).1 cs) (Dm c.2.1 (bi c).1 (bi c).2) ((cs.map (·.2)).map AV.row):=
 have e:(eA ((bi c).1+(bi c).2)).map (λ i=>(cs.map pd).getD i [])=cs.map pd:=(ah (λ n=>(eA n).map λ i=>(cs.map pd).getD i []) (hl.symm.trans (bL _).symm)).trans (CN [] (cs.map pd))
 (ah (λ r=>m8 (ot c.2.1 (bi c).1 r) (sE c.2.1 (bi c).1 cs)->zF (PV W X hX (n+2) true bR) (sE c.2.1 (bi c).1 cs) (Dm c.2.1 (bi c).1 (bi c).2) (r.map AV.row)) e).mp (QQ c hc _ _) (Ad h)
end
theorem De{α β γ:Type}{v:α->γ}{u:β->γ}{A:β->Prop}:∀xs:ae α,(∀x∈xs,∃o,u o=v x/\A o)->∃l:ae β,l.map u=xs.map v/\∀o∈l,A o
 |[],_=>⟨[],rfl,λ aa h=>nomatch h⟩
 |x::r,h=>(h x (.head _)).elim λ o z=>(De r λ y hy=>h y (.tail _ hy)).elim λ l y=>⟨o::l,congr (ah _ z.1) y.1,λ p hp=>(bQ.mp hp).elim (λ e=>e▸z.2) (y.2 p)⟩
theorem Vf{i:Int}(h:0<=i/\i<=2 - 1):i=0\/i=1:=by omega
theorem V8{i:Int}(h:0<=i/\i<=3 - 1):i=0\/i=1\/i=2:=by omega
noncomputable def IU(ns:ae Int)(fr g rv a5 a6 a7:AV):ae AV:=[.row ns, .own 1,fr,g,rv,a5,a6,a7, .undef, .undef, .undef, .undef]
section
variable{prog:aK}{w:bw}{W:WK prog w}{X:BM->Prop}{hX:∀G G',dG G G'->X G->X G'}{ns:ae Int}{c:Int×aC×Int}{cs:ae (aC×ae Int)}{ps:ae AV}
theorem UW(U:UK W)(L:LK W){r:ae Int}(hr:r.length=2)(hc:c∈iZ)(hl:cs.length=(bi c).1+(bi c).2)(h:∀c∈cs,nH c)(eg:sE c.2.1 (bi c).1 cs=gI ps)(PM:∀f,eu f ps=ps)
  (xs:ae ug) (hx:∀x∈xs,∃s t,(x,t)∈jA c.2.1 s) (hn:xs.length < 100):
  (Sv (PV W X hX 26 true bR)).run ⟨IU ns (jw c.1 c.2.1 c.2.2) (gI ps) (ox c.2.1 (bi c).1 (bi c).2 (cs.map (·.2))) (.own 2) .undef .undef,[.tab, .il r, .lst (xs.map (·.v))]⟩ (iE n6):=by
 obtain⟨x,y,rfl⟩:=mR hr
 obtain⟨v,m,⟨rfl,rfl⟩,wt⟩:=FE (W:=W) (X:=X) (hX:=hX) (j:=true) (cB:=bR) (d:=24) (x:=x) (y:=y) (top:=3) (by decide) (by decide)
 obtain⟨l,e1,e2⟩:=De (v:=ug.v) (u:=Bb.v) xs λ x Wy=>(hx x Wy).elim λ s z=>z.elim λ t hxs=>(QV (W:=W) (X:=X) (hX:=hX) U L hc hl h hxs (V8 (nk [_,y] (by decide))))
 have HR:=MY (W:=W) (X:=X) (hX:=hX) hc hl h (n:=24)
 rw[eg] at HR e2
 exact nf (B:=WC (PV W X hX 26 true bR) 865 [.own 1, .int 3] [.tab, .il [x,y], .lst (xs.map (·.v))] λ v m=>(YA (PV W X hX 26 true bR)).run ⟨IU ns (jw c.1 c.2.1 c.2.2) (gI ps) (ox c.2.1 (bi c).1 (bi c).2 (cs.map (·.2))) (.own 2) v (.own m.length),m++[.bG [] []]⟩ (iE n6)) (by kernel_rfl)
  (WC.src 1 wt rfl rfl rfl (λ aa=>rfl) rfl (e1▸L3 (n:=24) PM (w0 · _) l (aT (aU ((bL _).symm.trans ((ah fZ e1).trans (bL _)))) hn) (λ o ho=>(e2 o ho).lw) (λ o ho=>(e2 o ho).gc) HR))
def abc(C:St->Prop)(loc:ae AV)(v:AV)(m:ae AO):Prop:=pG m 2 λ o=>match o with
 | .lst xs=>cK (bB xs.length 1000000) (C ⟨loc,bz m 2 (.lst (xs++[v]))⟩)
 |_=>False
def R6(P:cC):CL P (N9.ct dL):=cl1 (xn 1 p0) (DN (Wi "_law_scan" (.fn 882) p0) (iS (eZ 3 p0) (iS (eZ 2 p0) qZ)) p0)
theorem L0(w1:∀r:ae Int,r.length=2->∃x∈jA c.2.1 r,WC (PV W X hX 26 true bR) 882 [.own 0,jw c.1 c.2.1 c.2.2] [.il r] λ v m=>v=x.1.v/\m=[.il x.2]){K:St->Prop}:∀(n:Nat) (i:Int) (r:ae Int) (acc:ae ug) (y:AV),r.length=2->acc.length+n<=1000->(∀x∈acc,∃s t,(x,t)∈jA c.2.1 s)->
  (∀(y:AV) (r':ae Int) (xs:ae ug),r'.length=2->xs.length=acc.length+n->(∀x∈xs,∃s t,(x,t)∈jA c.2.1 s)->K ⟨[.undef,y,jw c.1 c.2.1 c.2.2, .own 1],[.tab, .il r', .lst (xs.map ug.v)]⟩)->
  li (R6 (PV W X hX 26 true bR)).mQ.set ((R6 (PV W X hX 26 true bR)).body 2) (n+1) (.j_ n i 1) ⟨[.undef,y,jw c.1 c.2.1 c.2.2, .own 1],[.tab, .il r, .lst (acc.map ug.v)]⟩ K
 |0,_,r,acc,y,hr,_,ha,hK=>hK y r acc hr rfl ha
 |n+1,i,r,acc,y,hr,hn,ha,hK=>(w1 r hr).elim λ x z=>
  nf (B:=WC (PV W X hX 26 true bR) 882 [.own 1,jw c.1 c.2.1 c.2.2] [.tab, .il r, .lst (acc.map ug.v)] (abc (li (R6 (PV W X hX 26 true bR)).mQ.set ((R6 (PV W X hX 26 true bR)).body 2) (n+1) (.j_ n (i+1) 1) · K) [.undef, .int i,jw c.1 c.2.1 c.2.2, .own 1])) (by kernel_rfl)
   (WC.src 1 z.2 (ah (λ v=>[AV.own 1,v]) (rZ _).symm) rfl rfl (λ aa=>rfl) rfl (cK.i (c6 (aG (aU (bL _)) (aG (bq ..) (aG hn (by decide)))))
    ((ah (λ l=>li (R6 (PV W X hX 26 true bR)).mQ.set ((R6 (PV W X hX 26 true bR)).body 2) (n+1) (.j_ n (i+1) 1) ⟨[.undef, .int i,jw c.1 c.2.1 c.2.2, .own 1],[.tab, .il x.2, .lst l]⟩ K) (List.map_append (l₁:=acc) (l₂:=[x.1]) (f:=ug.v))).mp
     (L0 w1 n (i+1) x.2 (acc++[x.1]) (.int i) (Jf _ r x z.1) (bj▸aG (aU (cV _ 1 _)) hn) (λ y hy=>(fQ.mp hy).elim (ha y) λ h=>be.mp h▸⟨r,x.2,z.1⟩)
      λ y r' xs h1 h2=>hK y r' xs h1 (h2.trans (bj▸cV _ 1 _))))))
def act(P:cC)(n:Nat)(ns:ae Int)(fr g rv:AV)(r:ae Int):Prop:=∃N,li (R6 P).mQ.set ((R6 P).body 2) N (.j_ n 0 1) ⟨[.undef, .undef,fr, .own 1],[.tab, .il r, .lst []]⟩ λ σ=>(Sv P).run ⟨IU ns fr g rv (.own 2) .undef .undef,σ.mem⟩ (iE n6)
theorem UX(U:UK W)(L:LK W){r:ae Int}(hr:r.length=2)(hc:c∈iZ)(hl:cs.length=(bi c).1+(bi c).2)(h:∀c∈cs,nH c)(eg:sE c.2.1 (bi c).1 cs=gI ps)(PM:∀f,eu f ps=ps):
  (Su (PV W X hX 26 true bR)).run ⟨IU ns (jw c.1 c.2.1 c.2.2) (gI ps) (ox c.2.1 (bi c).1 (bi c).2 (cs.map (·.2))) .undef .undef .undef,[.tab, .il r]⟩ (iE n6):=by
 obtain⟨x,y,rfl⟩:=mR hr
 obtain⟨v,m,⟨rfl,rfl⟩,wt⟩:=FE (W:=W) (X:=X) (hX:=hX) (j:=true) (cB:=bR) (d:=24) (x:=x) (y:=y) (top:=2) (by decide) (by decide)
 have w1 (r:ae Int) (h:r.length=2):∃x∈jA c.2.1 r,WC (PV W X hX 26 true bR) 882 [.own 0,jw c.1 c.2.1 c.2.2] [.il r] λ v m=>v=x.1.v/\m=[.il x.2]:=(VG (W:=W) (X:=X) (hX:=hX) h).imp λ x=> .imp_right λ z=>z.up (Wo (W:=W) (X:=X) (hX:=hX) (j:=true) (cB:=bR) (d:=25) (n:=5) (by decide))
 have sc (n:Nat) (hn:n<=2) (r:ae Int) (hr:r.length=2):act (PV W X hX 26 true bR) n ns (jw c.1 c.2.1 c.2.2) (gI ps) (ox c.2.1 (bi c).1 (bi c).2 (cs.map (·.2))) r:=
  ⟨n+1,L0 w1 n 0 r [] .undef hr (aG (aU (fy n)) (aG hn (by decide))) (λ aa h=>nomatch h) λ y r' xs h1 h2 h3=>UW U L h1 hc hl h eg PM xs h3 (h2▸aT (aU (fy n)) (aT hn (by decide)))⟩
 have h1:=Vf (nk [x,y] (top:=2) (by decide))
 have h2:(gD [x,y] 2).length=2:=rfl
 generalize FG [x,y] 2=v at wt h1
 generalize gD [x,y] 2=r at wt h2
 conv=>whnf
 refine WC.src (M':=[.tab, .il r]) 1 wt rfl rfl rfl (λ aa=>rfl) rfl ?_
 rcases h1 with rfl|rfl
 ·exact nf (by kernel_rfl) (sc 1 (by decide) r h2)
 ·exact nf (by kernel_rfl) (sc 2 (by decide) r h2)
def acu(P:cC)(loc:ae AV)(v:AV)(m:ae AO):Prop:=AG [(3,"grid",p0),(4,"rows",p0)] v ⟨loc,m⟩ λ σ=>(Su P).run σ (iE n6)
theorem YD(U:UK W)(L:LK W){B:Nat}(hB:B<=1048576){ns:ae Int}(hn:ns.length<=63)(hl:∀v∈ns,v.natAbs < 2 ^ B):pg (PV W X hX 27 true bR) 902 [.row ns] [.tab] n6:=by
 obtain⟨r0,h0,w1⟩:=Qz (W:=W) (X:=X) (hX:=hX) (j:=true) (cB:=bR) (d:=24) hB hn hl
 obtain⟨c,hc,r1,h1,w2⟩:=Pu (W:=W) (X:=X) (hX:=hX) h0
 obtain⟨cs,r2,hcs,h2,hok,w3⟩:=Uc (W:=W) (X:=X) (hX:=hX) hc h1
 have w2:=w2.up (Wo (W:=W) (X:=X) (hX:=hX) (j:=true) (cB:=bR) (d:=25) (n:=5) (by decide))
 have w3:=w3.up (Wo (W:=W) (X:=X) (hX:=hX) (j:=true) (cB:=bR) (d:=25) (n:=5) (by decide))
 obtain⟨ps,eg,PM⟩:=Ad (two:=c.2.1) (n0:=(bi c).1) hok
 have eF:GN c.2.1 (bi c).1 (bi c).2 cs= .tup [gI ps,ox c.2.1 (bi c).1 (bi c).2 (cs.map (·.2))]:=ah (λ g=>AV.tup [g,ox c.2.1 (bi c).1 (bi c).2 (cs.map pd)]) eg
 have cf (f:Nat->Nat):ew f (.tup [gI ps,ox c.2.1 (bi c).1 (bi c).2 (cs.map (·.2))])= .tup [gI ps,ox c.2.1 (bi c).1 (bi c).2 (cs.map (·.2))]:=
  congr (ah (λ l k=>AV.tup [gI l, .bG (Dm c.2.1 (bi c).1 (bi c).2) k]) PM.eU) (w0 f _)
 exact P5 (d:=25) L rfl (nf (B:=WC (PV W X hX 26 true bR) 858 [.row ns] [.tab] λ v m=>(Yy (PV W X hX 26 true bR)).run ⟨[.row ns,v, .undef, .undef, .undef, .undef, .undef, .undef, .undef, .undef, .undef, .undef],m⟩ (iE n6)) (by kernel_rfl)
  (WC.FM [] w1 rfl rfl rfl rfl (nf (B:=WC (PV W X hX 26 true bR) 872 [.own 1] [.tab, .il r0] λ v m=>(Yz (PV W X hX 26 true bR)).run ⟨IU ns v .undef .undef .undef .undef .undef,m⟩ (iE n6)) (by kernel_rfl)
   (WC.src (M':=[.tab, .il r1]) 1 w2 rfl rfl rfl rZ rfl (nf (B:=WC (PV W X hX 26 true bR) 877 [.own 1,jw c.1 c.2.1 c.2.2] [.tab, .il r1] (acu (PV W X hX 26 true bR) (IU ns (jw c.1 c.2.1 c.2.2) .undef .undef .undef .undef .undef))) (by kernel_rfl)
    (WC.src (M':=[.tab, .il r2]) 1 (eF▸w3) (ah (λ v=>[AV.own 1,v]) (rZ _).symm) rfl rfl cf rfl (UX U L h2 hc hcs hok eg λ f=>PM.eU)))))))
end
theorem T2{prog:aK}{w:bw}{t:ie Fin}{s:ar}{R:iQ->ar->Prop}(ab8:s.asleep)
  (h:cL true (aE prog w) t6 t (λ fin s'=>∃f,fin= .done f/\R (.ok f) s'/\leftWithCleanup s'.gens=false) s):
  ∃n r s' s'',schedN (denote table) prog w n (.single s ⟨t, .builtin "claim.caller" {},default,[]⟩)= .halted (t7 r) s''/\
   runN (denote table) prog w n s ⟨t, .builtin "claim.caller" {},default,[]⟩= .halted (t7 r) s''/\s''.forget=s'.forget/\R r s':=by
 refine wp_halts_full (M:=aE prog w) (R:=R) (p:=default) ab8 ?_
 refine oC _ _ t (λ fin p' s' z=>?_) (λ aa aa aa f=>f.elim) _ _ (h _ default caller_in λ aa=>⟨by decide,λ x hx=>nomatch hx⟩)
 obtain⟨f,rfl,hf⟩:=z
 exact hf
noncomputable def uu(g:au->aq Obj)(l:ae au):eI:=l.filterMap λ a=>(g a).map λ o=>(a,o)
def fragOf(h:Heap)(l:ae au):eI:=uu h.get? l
theorem ID{h:Heap}{l:ae au}{a:au}{o:Obj}(e:(fragOf h l).lookup a=af o):h.get? a=af o/\a∈l:=
 (Jt.mp (mem_of_lookupK e)).elim λ b z=>(eK.mp z.2).elim λ o' q=>(cU q.2).1▸(cU q.2).2▸⟨q.1,z.1⟩
def G4(K:eI):aC:=o4 (nsIn K dk "law") λ r=>o4 r λ v=>wZ v (a_ · 902)
theorem LY{K:eI}(h:G4 K=true):nsIn K dk "law"=af (af (.ref 902)):=
 f9 h λ r e h=>f9 h λ v e' h=>(lA h).elim λ a q=>e.trans (ah af (e'.trans (ah af (q.1.trans (ah du (aL q.2))))))
def Sb(K:eI):aC:=FA.all (B7 K)&&(XY K 668&&(B7 K Wu&&(B7 K Wt&&(G4 K&&kH K))))
def Ky(K:eI):ae FuncBody:=(fdOf K 668).body::(fdOf K 897).body::(fdOf K 902).body::FA.map λ e=>(fdOf K e.f).body
def RZ(P:cC):ae FuncBody:= .stmts (xv P):: .stmts (h_ P).bA:: .stmts (v_ P).bA::FA.map λ e=> .stmts (e.b P).bA
structure Ot(prog:aK)(w:bw)(as:ae au)(s:ar):Prop where
 a:tabsOk (fragOf s.heap as) TT=true
 b:Sb (fragOf s.heap as)=true
 c:Ky (fragOf s.heap as)=RZ (P0 prog w)
 d:s.heap.get? dM=af (ti #[])
 e:(s.heap.get? di).isSome=true
section
variable{prog:aK}{w:bw}
theorem K5{as:ae au}{s:ar}(y:Ot prog w as s):∃W:WK prog w,W.K=fragOf s.heap as/\UK W/\LK W/\G4 W.K=true/\kH W.K=true/\s.heap.get? dM=af (ti #[])/\∃o,s.heap.get? di=af o:=
 have b1:=aF y.b
 have b2:=aF b1.2
 have b3:=aF b2.2
 have b4:=aF b3.2
 have b5:=aF b4.2
 have c1:=qp y.c
 have c2:=qp c1.2
 have c3:=qp c2.2
 ⟨⟨fragOf s.heap as,y.a,b1.1,c3.2⟩,rfl,⟨b2.1,c1.1⟩,⟨b3.1,c2.1,b4.1,c3.1⟩,b5.1,b5.2,y.d,jv.mp y.e⟩
theorem PW{K:eI}{h:Heap}(hK:K.In h)(c:kH K=true):isCodeTable h dM:=
 (yK hK c).elim λ o z=>z.elim λ vs z=>z.elim λ aa z=>z.elim λ aa z=>z.elim λ aa z=>z.elim λ aa z=>z.elim λ aa z=>z.elim λ aa z=>z.elim λ aa z=>⟨wi,o,vs,z.1,z.2.1,z.2.2.1,z.2.2.2.1⟩
def Cy(h:Heap):Heap:=hideAll h [dM]
theorem sF{h:Heap}{b:au}{o:Obj}(e:h.get? b=af o)(n:b≠dM):(Cy h).get? b=af o:=hideAll_get _ e (by simpa using n)
theorem Cz{h:Heap}:(Cy h).get? dM=none:=hideAll_none [dM] aR
theorem Ef{h:Heap}{a:au}{m:bI->aq ak}(x:h.Ns a m)(n:a≠dM):(Cy h).Ns a m:=let ⟨o,es,ep,e,r⟩:=x; ⟨o,es,ep,sF e n,r⟩
theorem Rg{p:aK}{loose:ae bI}{mg mb:bI->aq ak}{h:Heap}(T:nZ p loose mg mb h):nZ p loose mg mb (Cy h):=
 ⟨Ef T.g (by decide),Ef T.b (by decide),let ⟨mc,a,b⟩:=T.nolimit; ⟨mc,Ef a (by decide),b⟩,T.builtins,T.free⟩
theorem OM{K:eI}{p:aK}{loose:ae bI}{mg mb:bI->aq ak}{h h':Heap}(hK:∀a o,K.lookup a=af o->h.get? a=af o/\a≠dM)(T:nZ p loose mg mb h)(hs:∃o,h.get? di=af o)(k:∀b o,h.get? b=af o->h'.get? b=af o):JP K (λ a=>(Cy h').get? a):=
 ⟨Cy h,p,loose,mg,mb,λ a o e=>sF (hK a o e).1 (hK a o e).2,Rg T,hs.imp λ aa ho=>sF ho (by decide),λ a o e=>sF (k _ _ (of_hideAll _ e)) λ q=>nomatch (q▸e:(Cy h).get? dM=af o).symm.trans Cz⟩
theorem old_kept{h h':Heap}{ps:bD ak}{oT:Obj}(it:isCodeTable h dM)(ht:h.get? dM=af (ti #[]))(hT:h'.get? dM=af oT)(e:oT=ti ps)(kp:∀a o,a≠dM->h.get? a=af o->h'.get? a=af o):OldK h h' where
 old:=λ b o q=>(nX (b=dM)).elim (λ z=> .inr (.inl (z▸(am (ht.symm.trans (z▸q)))▸⟨it,rfl,#[],ps,rfl,hT.trans (ah af (e.trans (ah ti Array.empty_append.symm)))⟩))) λ n=> .inl (kp _ _ n q)
 there:=λ b o q=>(nX (b=dM)).elim (λ z=>⟨oT,z▸hT⟩) λ n=>⟨o,kp _ _ n q⟩
theorem LZ{W:WK prog w}(U:UK W)(L:LK W)(hc:kH W.K=true){p:aK}{loose:ae bI}{mg mb:bI->aq ak}{s:Heap}{s₁:ar}(hK:∀a o,W.K.lookup a=af o->s.get? a=af o/\a≠dM)(T:nZ p loose mg mb s)(hsy:∃o,s.get? di=af o)
  (k:∀b o,s.get? b=af o->s₁.heap.get? b=af o) (ht:s₁.heap.get? dM=af (ti #[])) (hg:s₁.gens=#[]) {l:au} {o:Obj} {vs:bD ak} {ns:ae Int} (ho:s₁.heap.get? l=af o) (hl:iY o vs) (hi:cx ns vs.toList) (hn:ns.length<=63) (hb:∀v∈ns,v.natAbs < 2 ^ 1048576):
  dP true (aE prog w) t6 (.call (.ref 902) ⟨[.ref l],[]⟩) (Hk λ v s'=>v= .bool true/\OldK s₁.heap s'.heap/\s'.os=s₁.os/\AllBare s'.gens) s₁:=
 have IL:l≠dM:=λ q=>hl.elim λ n e=>Value.noConfusion (ah Obj.cls ((am (ht.symm.trans (q▸ho))).trans e):c_= .type "list")
 X.el ((YD (W:=W) (X:=λ aa=>True) (hX:=λ aa aa aa h=>h) U L (cF _) hn hb).run t6 (λ a=>(Cy s₁.heap).get? a) [dM] s₁ [.ref l] rfl ⟨show t6.depth+3 * 27 < 990 by decide,show t6.units+12 * 27 < 9800 by decide,rfl⟩ ⟨OM hK T hsy k,trivial⟩
  {kg:=λ a o e=>of_hideAll _ e,len:=rfl,nd:=dU.mpr ⟨bK,gA⟩,fr:=λ a ha=>be.mp ha▸Cz
   obj:=λ i a ao Ya e=>match i,Ya,e with
    |0,Ya,e=>am Ya▸am e▸⟨_,ht,#[],rfl,trivial, .inl rfl⟩}
  (bJ.cons (VR.QO (sF ho IL) hl hi) bJ.nil))
  (oq λ v s' z=>z.casesOn λ G' ρ' av mem' h kp nw gf gz=>h.2.1.elim λ τ e=>
   (h.2.2.1.at (i:=0) ((eL ..).symm.trans h.2.2.2.2.2)).elim λ a q=>q.elim λ oT q=>q.2.2.elim λ ps t=>
    have ea:a=dM:=am (q.1.symm.trans (e▸rfl))
    ⟨(h.2.2.2.2.1▸h.2.2.2.1:VR G' ρ' (.bool true) v),old_kept (PW (K:=W.K) (λ a o e=>k _ _ (hK a o e).1) hc) ht (ea▸q.2.1) t.1 λ a o n=>kp a o λ hm=>n (be.mp hm),gz.2,gz.1.2 (hg▸AllBare.empty)⟩)
end
def re(p:aK):OpenLaw:={prog:=p,name:="law",about:=["ac_values"],foot:=9,most:=af 63,bound:=none,writes:=false}
def mH(p:aK):ClaimW:=(re p).row.toRowW.claim
theorem IP{d:WData}(h:sm [] d .int=true):∃i:Int,d= .int i:=by
 cases d
 case int i=>exact⟨i,rfl⟩
 all_goals exact bt (show false=true from h) aW
theorem wF:∀{xs:ae WData},WShape.hasItems [] xs .int=true->∃ns:ae Int,xs=ns.map WData.int
 |[],_=>⟨[],rfl⟩
 |x::r,h=>have h:=aF (show(sm [] x .int&&WShape.hasItems [] r .int)=true from h)
  (IP h.1).elim λ i e=>(wF h.2).elim λ ns q=>⟨i::ns,e▸ah _ q⟩
theorem E6{d:WData}(h:sm [] d (.list .int)=true):∃ns:ae Int,d= .list (ns.map WData.int):=by
 cases d
 case list xs=>exact(wF ((Bool.or_false _).symm.trans h)).elim λ ns e=>⟨ns,ah _ e⟩
 all_goals exact bt (show false=true from h) aW
theorem I7{p:aK}{args:ae WData}(h:(mH p).pre args=true):∃ns:ae Int,args=[.list (ns.map WData.int)]/\ns.length<=63:=by
 have h:=aF (show(WShape.hasAll [] args [.list .int]&&(re p).pre.holds [] {args:=args})=true from h)
 refine(hasAllW_cons h.1).elim λ d z=>z.elim λ r z=>(E6 z.2.1).elim λ ns e=>⟨ns,?_⟩
 have ea:args=[.list (ns.map WData.int)]:=z.1.trans (hasAllW_nil z.2.2▸e▸rfl)
 refine⟨ea,?_⟩
 have h2:=condW_of (t:= .and (.not (.lt (.lit (.int 63)) (.len (.arg 0)))) (.lit (.bool true))) (ea▸h.2) (w_and (w_not (w_lt w_lit (w_len_list (w_arg rfl)))) w_lit)
 have h3:(!decide ((63:Int) < ((ns.map WData.int).length:Nat)))=true:=(aF h2).1
 rw[bL] at h3
 exact pL.mp (gX.mp (oH (nb h3)))
theorem QA{p:aK}(args ds:ae WData):(mH p).post args (.bool true) ds=true:=
 show(sm [] (.bool true) .bool&&WTm.holds [] (.eq .res (.lit (.bool true))) {args:=args,res:=af (.bool true),after:=ds})=true from(ah (sm [] (.bool true) .bool&&·) (holdsW_of_value (w_eq_bool (w_res rfl) w_lit))).trans rfl
theorem Z8{xs:ae WData}{k:Nat}(h:WData.weightAll xs<=k):∀x∈xs,WData.weight x<=k:=by
 induction xs with
 |nil=>exact λ x hx=>nomatch hx
 |cons y r ih=>
  have h:WData.weight y+1+WData.weightAll r<=k:=by unfold WData.weightAll at h; exact h
  intro x hx
  rcases bQ.mp hx with rfl|hx
  ·omega
  ·exact ih (by omega) x hx
theorem LH{i:Int}{k:Nat}(h:WData.weight (.int i)<=k):i.natAbs < 2 ^ k:=by
 unfold WData.weight at h
 split at h
 ·rename_i q
  have:i=0:=by simpa using q
  subst this
  exact Nat.pow_pos (by decide)
 ·rename_i q
  have hn:i.natAbs≠0:=by
   intro z; apply q; simpa using Int.natAbs_eq_zero.mp z
  exact fj (Nat.lt_log2_self (n:=i.natAbs)) (rD (by decide) h)
theorem L4{ns:ae Int}(h:WData.layableAll [.list (ns.map WData.int)]=true):∀v∈ns,v.natAbs < 2 ^ 1048576:=by
 have h:(WData.canLay (.list (ns.map WData.int))&&decide (WData.depth (.list (ns.map WData.int))<=64)&&decide (WData.weight (.list (ns.map WData.int))<=2 ^ 20))=true:=(aF (show(WData.layable _&&true)=true from h)).1
 have hw:WData.weightAll (ns.map WData.int)<=1048576:=bg (aF h).2
 exact λ v hv=>LH (Z8 hw _ (g9 hv))
theorem lay_ints{R:WRecords}{cl:bI->aq au}{P:Params}{ord:ae bf->ae bf}:∀(ns:ae Int) (s:ar),∃vs t,layAllW R cl P ord (ns.map WData.int) s=af (vs,{s with toks:=t})/\cx ns vs
 |[],s=>⟨[],s.toks,rfl,rfl⟩
 |i::r,s=>(lay_ints (R:=R) (cl:=cl) (P:=P) (ord:=ord) r {s with toks:=s.toks+1}).elim λ vs z=>z.elim λ t z=>⟨.int i s.toks::vs,t,
  (ah (λ q:aq (ae ak×ar)=>match q with
   |some r=>af (eC i s.toks::r.1,r.2)
   |Option.none=>Option.none) z.1:),s.toks,vs,rfl,z.2⟩
theorem L5{R:WRecords}{cl:bI->aq au}{P:Params}{ord:ae bf->ae bf}(ns:ae Int)(s:ar):∃(vs:ae ak) (t:Nat),layAllW R cl P ord [.list (ns.map WData.int)] s=af ([.ref s.heap.objs.size],{s with toks:=t,heap:=s.heap.push {cls:= .type "list",data:= .seq vs.toArray}})/\cx ns vs:=
 (lay_ints (R:=R) (cl:=cl) (P:=P) (ord:=ord) ns s).imp λ vs z=>z.imp λ t z=>⟨by unfold layAllW layW; rw[z.1]; rfl,z.2⟩
noncomputable def Sw(vs:ae ak):Obj:=⟨.type "list",none, .seq vs.toArray 0,#[]⟩
def sK(s:ar)(t:Nat)(vs:ae ak):ar:={s with toks:=t,heap:=s.heap.push (Sw vs)}
theorem Jd{p q:aK}{w:bw}{as:ae au}{s:ar}{ord:ae bf->ae bf}{args:ae WData}{loose:ae bI}{mg mb:bI->aq ak}{Q:Prop}(has:dM∉as)(TR:nZ q loose mg mb s.heap)(hg:s.gens=#[])(y:Ot p w as s)(PK:∀l,(ord l).Perm l)
  (LA:(mH p).pre args=true) (PJ:WData.layableAll args=true)
  (k:∀vs t bs,layAllW [] (classAt s.heap) w.params ord args s=af ([.ref s.heap.objs.size],sK s t vs)->Laid [] w s (sK s t vs) args [.ref s.heap.objs.size] bs->(sK s t vs).heap.life=s.heap.life->mg "law"=af (.ref 902)->
   dP true (aE p w) t6 (.call (.ref 902) ⟨[.ref s.heap.objs.size],[]⟩) (Hk λ v s'=>v= .bool true/\OldK (sK s t vs).heap s'.heap/\s'.os=(sK s t vs).os/\AllBare s'.gens) (sK s t vs)->Q):Q:=
 (I7 LA).elim λ ns z=>(K5 y).elim λ W f=>(L5 (R:=[]) (cl:=classAt s.heap) (P:=w.params) (ord:=ord) ns s).elim λ vs l=>l.elim λ t l=>
  have e:layAllW [] (classAt s.heap) w.params ord args s=af ([.ref s.heap.objs.size],sK s t vs):=z.1▸l.1
  have al:=layAllW_rest _ _ _ e
  have kp:=layAllW_keeps _ _ _ e
  have hK:∀a o,W.K.lookup a=af o->s.heap.get? a=af o/\a≠dM:=λ a o q=>(ID (f.1▸q)).imp_right λ m z=>has (z▸m)
  (reads_layAllW PK _ _ _ e PJ _ (λ aa aa q=>q)).elim λ bs r=>
   k vs t bs e ⟨⟨ord,PK,e⟩,r.1,r.2.1,r.2.2,kp,al.1.trans hg,al.2.2.1⟩ al.2.2.2 (mg_of (λ a o q=>(hK a o q).1) TR.g (LY f.2.2.2.1))
    (LZ f.2.1 f.2.2.1 f.2.2.2.2.1 hK TR f.2.2.2.2.2.2 kp (kp _ _ f.2.2.2.2.2.1) (al.1.trans hg) (show(sK s t vs).heap.get? s.heap.objs.size=af (Sw vs) from aN _ rfl) ⟨_,rfl⟩ l.2 z.2 (L4 (z.1▸PJ)))
def Tc(p:aK)(s s₁:ar)(args:ae WData)(a:au)(r:iQ)(s':ar):Prop:=(mH p).Ends s args [.ref a] s₁ r s'/\s'.os=s.os
theorem MX{p:aK}{w:bw}{s s₁:ar}{args:ae WData}{a:au}{bs:ae au}{mg:bI->aq ak}(TR:s.heap.Ns dk mg)(laid:Laid [] w s s₁ args [.ref a] bs)(hz:s₁.asleep)(hmg:mg "law"=af (.ref 902))
  (e:dP true (aE p w) t6 (.call (.ref 902) ⟨[.ref a],[]⟩) (Hk λ v s'=>v= .bool true/\OldK s₁.heap s'.heap/\s'.os=s₁.os/\AllBare s'.gens) s₁):
  ∃n r s' s'',schedN (denote table) p w n (.single s₁ ⟨(callStub "law" [.ref a]).cur, .builtin "claim.caller" {},default,[]⟩)= .halted (t7 r) s''/\runN (denote table) p w n s₁ ⟨(callStub "law" [.ref a]).cur, .builtin "claim.caller" {},default,[]⟩= .halted (t7 r) s''/\
   s''.forget=s'.forget/\Tc p s s₁ args a r s':=
 T2 (R:=Tc p s s₁ args a) hz (X.cM (X.any (wpAny_nsGet (TR.keeps laid.keeps) (hmg.symm▸X.cM (X.calls (X.el e λ r s' z=>
  z.u (Q:=λ r s'=>match r with | .ok (.ret v)=>cL true (aE p w) t6 (ret v) (λ fin s'=>∃f,fin=Fin.done f/\Tc p s s₁ args a (.ok f) s'/\leftWithCleanup s'.gens=false) s'|_=>False) λ v z=>
  have g:GoodWG (mH p) (classAt s.heap) (ExcName.means s.heap) args s₁ (.ok (.ret (.bool true))) s':=⟨.inl ⟨.bool true, .bool true,[],rfl,λ aa=>rfl, .bool true,QA _ _,λ aa=>⟨gA,λ a ha=>nomatch ha⟩⟩,z.2⟩
  have q:=GoodWG.laid (c:=mH p) rfl rfl (λ a b=>ident_freeW rfl rfl rfl a b) laid g
  X.ret ⟨_,rfl,⟨z.1▸q.1,q.2.1⟩,leftWithCleanup_false_of_bare q.2.2⟩))))))
theorem MW{p q:aK}{w:bw}{as:ae au}{s:ar}{loose:ae bI}{mg mb:bI->aq ak}{free:au->Prop}{gens:Prop}{kept:Heap->Prop}(has:dM∉as)(TR:nZ q loose mg mb s.heap)(hg:s.gens=#[])(hz:s.asleep)(y:Ot p w as s)(hk:∀h,kept h):
  (mH p).CallFrom (callStub "law") w free gens kept s:=λ args LA PJ ord PK=>
 Jd has TR hg y PK LA PJ λ vs t bs e laid lf hmg c=>(MX TR.g laid (Shared.asleep_of_life lf hz) hmg c).elim λ n z=>z.elim λ r z=>z.elim λ s2 z=>z.elim λ s3 z=>
  have q:=Shared.forget_eq z.2.2.1
  ⟨_,sK s t vs,e,n,_,s3,z.1,(z.2.2.2.1.congr q.1).imp (cQ λ v d=>⟨ah t7 d.1,d.2.1,d.2.2.1,d.2.2.2.1,λ b o y aa=>d.2.2.2.2.1 b o y,d.2.2.2.2.2⟩) (cQ λ e=>cQ λ ob=>cQ λ cls d=>⟨ah t7 d.1,d.2.1,d.2.2.1,d.2.2.2.1,d.2.2.2.2.1,λ b o y aa=>d.2.2.2.2.2 b o y⟩),
   λ aa i x hx=>bt ((ah (λ g:bD d7=>g[i]?) hg).symm.trans hx) (by rw[Array.getElem?_empty]; exact λ h=>nomatch h),hk _,ah (λ l:Life=>l.seen) ((runN_life _ _ _ z.2.1).trans lf),Shared.rest_eq (q.2.2.2.1.trans z.2.2.2.2)⟩
theorem IN{p q:aK}{loose:ae bI}{as:ae au}{N:Nat}{d:DefRec}{kwd:ae (bI×aB)}(has:dM∉as)(left:LeftO p q loose (λ aa=>true) (λ s=>∀w,Ot p w as s) (λ aa=>True) N)(hch:chainsOk q=true)(ow:opensWell p=true)(hb:p.bare)
  (abQ:defOf q "law"=af (d,kwd)) (hp:p.theDef "law"=af (d.params,d.body,d.scope)) (hk:kwWritten? d.params.kwonlyargs d.params.kw_defaults=af kwd) (prom:(re p).row.toRowW.promised) (VB:(re p).row.wellSaid=true):(re p).row.Holds:=
 ⟨VB,prom,⟨hb,ow,rfl⟩,prom.witness,λ w=>have z:=left.behind (XP:=λ aa aa=>True) (λ aa aa=>trivial) hch w
  ⟨z.1,λ s' Yg=>(z.2 s' Yg).imp λ kY z=>⟨z.1,z.2.1,z.2.2.imp λ s z=>have hg:s.gens=#[]:=Array.eq_empty_of_size_eq_zero (a4.mp z.2.2.1)
   ⟨z.1,λ n hn=>be.mp hn▸pinned_of_view z.2.2.2.1 z.2.2.2.2.1 abQ hp hk,(λ x hx=>nomatch hx),(λ x hx=>nomatch hx),MW has (topRead_of z.2.2.2.2.1.T) hg z.2.1 (of_eq_true (p:=∀w,Ot p w as s) z.2.2.2.2.2 w) λ h e=>nomatch e⟩⟩⟩⟩
end Mine
set_option maxHeartbeats 0
namespace Mine
def HP(tb:cS->aq b8)(p:aK)(w:bw)(C5:Nat)(ann:aq ak)(n:Nat):jk->Thread->aq jk:=D4 (motive:=λ aa=>jk->Thread->aq jk) (λ aa aa=>none)
 (λ aa k s t=>aX (through t) (af s) (aX (stepOk C5 ann t) (ob (stepT (denote tb) p w s t) λ r=>k r.1 r.2) none)) n
section
variable{tb:cS->aq b8}{p:aK}{w:bw}{C5 n:Nat}{ann:aq ak}{s s':ar}{t t':Thread}{x:aq ar}
theorem VA(e:through t=true):D6 tb p w C5 ann (n+1) s t=af s:=by
 unfold D6
 rw[e]
theorem Vz(e:through t=false)(k:stepOk C5 ann t=true)(h:step (denote tb) p w s t= .go s' t')(q:D6 tb p w C5 ann n s' t'=x):D6 tb p w C5 ann (n+1) s t=x:=by
 unfold D6
 rw[e,k,h]
 exact q
theorem xo:∀{n:Nat} {s s':jk} {t:Thread},HP tb p w C5 ann n s t=af s'->D6 tb p w C5 ann n s.abs t=af s'.abs
 |0,_,_,_=>λ h=>cu h
 |_+1,_,_,_=>λ h=>condB h (λ e h=>(VA e).trans (ah (λ x=>af x.abs) (am h))) λ e h=>condB h (λ k h=>ob.u h λ aa q h=>Vz e k (stepT_spec q) (xo h)) λ aa h=>cu h
end
def toBT:ae Obj->Nat->BT->aq (BT×Nat)
 |[],n,T=>af (T,n)
 |o::r,n,T=>aX ((T.ins n o).get n).isSome (toBT r (n+1) (T.ins n o)) none
theorem toBT_abs(life:Life):∀{l:ae Obj} {n:Nat} {T:BT} {T':BT} {n':Nat},toBT l n T=af (T',n')->DX T' n' life=⟨(DX T n life).objs++l.toArray,life⟩
 |[],n,T,T',n'=>λ h=>have e:=cU (am h); e.1▸e.2▸ah (Heap.mk · life) Array.append_empty.symm
 |o::r,n,T,T',n'=>λ h=>condB h (λ e h=>(toBT_abs life h).trans (ah (Heap.mk · life) (by
   rw[absHeap_ins e]
   show(DX T n life).objs.push o++r.toArray=_
   rw[Array.push_eq_append,Array.append_assoc]
   exact ah _ (List.append_toArray [o] r)))) λ aa h=>cu h
def XE(tb:cS->aq b8)(p:aK)(w:bw)(N:Nat)(kY:ar):aq jk:=
 aX (kY.heap.isNs dk&&kY.gens.size==0) (ob (toBT kY.heap.objs.toList 0 .nil) λ T=>ob (HP tb p w T.2 (kY.heap.nsMap dk "__annotations__") N ⟨T.1,T.2,kY.heap.life,kY.gens,kY.drawn,kY.toks,kY.os⟩ (topStub p)) λ s₁=>
  aX (staticsOk (Bt p.main.body) kY.heap s₁.abs.heap&&namesBound p s₁.abs.heap&&gensDone s₁.abs&&laidKept kY.heap s₁.abs.heap) (af s₁) none) none
theorem Pw{tb:cS->aq b8}{p:aK}{w:bw}{N n:Nat}{kY S0 s₁:ar}(a:(kY.heap.isNs dk&&kY.gens.size==0)=true)(hs:S0=kY)(hn:n=kY.heap.objs.size)(b:D6 tb p w n (kY.heap.nsMap dk "__annotations__") N S0 (topStub p)=af s₁)
  (c:(staticsOk (Bt p.main.body) kY.heap s₁.heap&&namesBound p s₁.heap&&gensDone s₁&&laidKept kY.heap s₁.heap)=true):topFrom tb p w N kY=af s₁:=by
 subst hs hn
 unfold topFrom
 rw[a]
 dsimp only
 rw[b,lu,c]
theorem OA{h:Heap}{T:BT×Nat}(e:toBT h.objs.toList 0 .nil=af T):DX T.1 T.2 h.life=h:=by
 rw[toBT_abs h.life (T':=T.1) (n':=T.2) e]
 simp [DX,BT.list]
theorem Pc{tb:cS->aq b8}{p:aK}{w:bw}{N:Nat}{kY:ar}{s:jk}(h:XE tb p w N kY=af s):topFrom tb p w N kY=af s.abs:=
 condB h (λ e h=>ob.u h λ T hT h=>ob.u h λ s₁ h1 h=>condB h (λ e2 h=>have e3:=OA hT
  (Pw e (ah (λ h=>{kY with heap:=h}) e3) ((absHeap_size ..).symm.trans (ah (λ h=>h.objs.size) e3)) (xo h1) e2).trans (ah (λ x=>af x.abs) (am h))) λ aa h=>cu h) λ aa h=>cu h
def endsP(p:aK)(w:bw):aq jk:=(fencedOpening treeTable p w 13100).bind λ kY=>XE treeTable p w 13100 kY
def seenP(p q:aK)(loose:ae bI)(s:jk):=openSeen q loose (Bt p.main.body) (λ aa=>true) true s.abs
lay_quick endsP seenP openGood
theorem P6{p q:aK}{loose:ae bI}{Yf:ar->Prop}(h:∀w,(endsP p w).map (seenP p q loose)=af (openGood q loose))(y:∀w s,endsP p w=af s->Yf s.abs):LeftO p q loose (λ aa=>true) Yf (λ aa=>True) 13100:=λ w=>
 (eK.mp (h w)).elim λ s z=>(Option.bind_eq_some_iff.mp z.1).elim λ kY q=>by
  unfold openEnds
  rw[q.1,lu,Pc q.2]
  exact ah af (Prod.ext z.2 (eq_true (y w s z.1)))
def Cm(s:jk)(a:au):aq Obj:=match fu a s.n with
 |true=>alive ((s.tree.get a).getD default)
 |false=>none
theorem Aa(s:jk)(a:au):Cm s a=s.abs.heap.get? a:=by
 unfold Cm
 cases e:fu a s.n with
 |true=>
  have h:a < s.n:=aQ e
  show alive _=(DX s.tree s.n s.life).get? a
  cases g:s.tree.get a with
  |some o=>exact(abs_get h g).symm
  |none=>unfold Heap.get?; rw[absHeap_at,dq h,g]; rfl
 |false=>exact(abs_get_none λ h=>ay ((c6 h).symm.trans e)).symm
def uv(s:jk)(l:ae au):eI:=uu (Cm s) l
theorem wy(s:jk)(l:ae au):uv s l=fragOf s.abs.heap l:=ah (uu · l) (funext (Aa s))
theorem map_some{α β:Type}{o:aq α}{f:α->β}{b:β}(h:o.map f=af b){s:α}(e:o=af s):f s=b:=am ((ah (ed f) e).symm.trans h)
def Il:ae au:=eA 16++((clA.flatMap λ c=>[c,c - 1])++([902,901,897,896,668,667,572]++((FA.flatMap λ e=>[e.f,e.f - 1])++fY 113 123)))
noncomputable def E9:ae bI:=gT.boundNames.filter (· !="law")
def sQ(a b:bI):aC:=Fast.lEq a.cps.toList b.cps.toList
theorem Zw{a b:bI}(h:sQ a b=true):a=b:=ah Str.mk (uK.mp (Fast.lEq_iff.mp h))
theorem SR(a b:bI):sQ a b=(a==b):=Bool.eq_iff_iff.mpr ⟨λ h=>a4.mpr (Zw h),λ h=>Fast.lEq_iff.mpr (ah (λ x:bI=>x.cps.toList) (a4.mp h))⟩
def UO(v:ak)(x:bI):aC:=match v with
 | .str s _=>sQ s x
 |_=>false
theorem PY(v:ak)(x:bI):UO v x=v.isStr x:=by
 cases v
 case str s _=>exact SR s x
 all_goals rfl
def findQ(x:bI)(l:ae bf):aq bf:=l5 (motive:=λ aa=>aq bf) none (λ e aa r=>aX (UO e.key x) (af e) r) l
theorem findQ_eq(x:bI):∀l:ae bf,findQ x l=l.find? (·.key.isStr x)
 |[]=>rfl
 |e::r=>by
  show aX (UO e.key x) (af e) (findQ x r)=_
  rw[PY,findQ_eq x r,xC]
  cases e.key.isStr x<;>rfl
def nsQ(K:eI)(a:au)(f:ae bf->aq bf):aq (aq ak):=match K.lookup a with
 |some ⟨_,_, .dict es _,_⟩=>(match f es.toList with
   |some e=>af (af e.val)
   |none=>if es.toList.any (·.refKey) then none else af none)
 |_=>none
theorem U_(K:eI)(a:au)(x:bI):nsQ K a (findQ x)=nsIn K a x:=(ah (nsQ K a) (funext (findQ_eq x))).trans rfl
def KL(f:bI->bI->aC)(K:eI)(cd:ak)(q:bI):aC:=match cd with
 | .ref c=>(match K.lookup c with
   |some ⟨_,_, .fields vs,_⟩=>(match vs.toList with|_:: .str n _::_=>f n q|_=>false)
   |_=>false)
 |_=>false
theorem KM(K:eI)(cd:ak)(q:bI):KL sQ K cd q=codeIn K cd q:=(ah (KL · K cd q) (funext λ a=>funext (SR a))).trans rfl
theorem wx{g:au->aq Obj}{b:au}{o:Obj}{r:ae au}(e:g b=af o):uu g (b::r)=(b,o)::uu g r:=jT (ah (ed λ o=>(b,o)) e)
theorem EO{g:au->aq Obj}{b:au}{r:ae au}(e:g b=none):uu g (b::r)=uu g r:=List.filterMap_cons_none (ah (ed λ o=>(b,o)) e)
theorem Ch{g:au->aq Obj}{a:au}{o:Obj}(e:g a=af o):∀{l:ae au},a∈l->(uu g l).lookup a=af o
 |[],m=>bt m bK
 |b::r,m=>(nX (a=b)).elim (λ q=>by
   subst q
   exact(ah (FV a) (wx e)).trans List.lookup_cons_self) λ n=>by
   have ih:=Ch e ((bQ.mp m).resolve_left n)
   cases q:g b with
   |none=>exact(ah (FV a) (EO q)).trans ih
   |some x=>rw[wx q,f5,beq_false_of_ne n]; exact ih
def Vw(s:jk)(a:au):aq Obj:=aX (bB 113 a&&fu a 236) (Cm s a) none
theorem QN{s:jk}{a:au}{o:Obj}(h:Vw s a=af o):(uv s Il).lookup a=af o:=condB h (λ b h=>Ch h (cD _ (cD _ (cD _ (cD _ (List.mem_range'_1.mpr ⟨aQ (aF b).1,lR (aF b).2⟩)))))) λ aa h=>cu h
def V4(L:au->aq Obj)(v:ak)(p:ae ak->aC):aC:=wZ v λ a=>o4 (L a) λ o=>tyB o.cls "tuple"&&Na o p
def SN(L:au->aq Obj)(l:ae (ae Int)):ae ak->aC:=l5 (motive:=λ aa=>ae ak->aC) List.isEmpty (λ x aa ih us=>match us with
 |[]=>false
 |v::t=>V4 L v (yY x)&&ih t) l
section
variable{K:eI}{L:au->aq Obj}
theorem an{a b:aC}(x:a=true)(y:b=true):(a&&b)=true:=bN.mpr ⟨x,y⟩
theorem HQ(hL:∀a o,L a=af o->K.lookup a=af o){v:ak}{p q:ae ak->aC}(hp:∀l,p l=true->q l=true)(h:V4 L v p=true):DF K v q=true:=
 (lA h).elim λ a z=>z.1▸f9 z.2 λ o e k=>(AE (aF k).2).elim λ vs w=>w.elim λ n w=>by
  show o4 (K.lookup a) _=true
  rw[hL a o e]
  refine an (aF k).1 ?_
  unfold Na
  rw[w.1]
  exact hp _ w.2
theorem Dn(hL:∀a o,L a=af o->K.lookup a=af o):∀{xz:ae (ae Int)} {vs:ae ak},SN L xz vs=true->AC K xz vs=true
 |[],[]=>λ aa=>rfl
 |[],_::_=>λ h=>h
 |_::_,[]=>λ h=>h
 |_::_,_::_=>λ h=>an (HQ hL (λ aa=>id) (aF h).1) (Dn hL (aF h).2)
def vrQ(K:eI)(L:au->aq Obj)(v:AV)(u:ak):aC:=match v with
 | .nM xz=>V4 L u (SN L xz)
 |v=>Rr K v u
theorem V_(hL:∀a o,L a=af o->K.lookup a=af o){v:AV}{u:ak}(h:vrQ K L v u=true):Rr K v u=true:=by
 cases v
 case nM=>exact HQ hL (λ aa=>Dn hL) h
 all_goals exact h
def glQ(K:eI)(L:au->aq Obj)(gl:ae (bI×AV)):aC:=gl.all λ x=>o4 (nsQ K dk (findQ x.1)) λ r=>o4 r λ u=>vrQ K L x.2 u
theorem Up(hL:∀a o,L a=af o->K.lookup a=af o){gl:ae (bI×AV)}(h:glQ K L gl=true):X1 K gl=true:=aY.mpr λ x m=>f9 (aY.mp h x m) λ r e k=>f9 k λ u e' k=>by
 rw[U_] at e
 rw[e,e']
 exact V_ hL k
def Nx(K:eI)(L:au->aq Obj)(T:J2):aC:=glQ K L T.gl&&(yD K T.blt&&(Tu K T.at_&&(UB K T.init&&U5 K T.tP)))
theorem Ny(hL:∀a o,L a=af o->K.lookup a=af o){T:J2}(h:Nx K L T=true):tabsOk K T=true:=an (Up hL (aF h).1) (aF h).2
def ctB(ct:Ct)(xs:ae bI):aC:=wR ct.aS&&(xs.isPrefixOf ct.aS&&xs.all (λ x=>ct.names.lookup x==af .local||ct.names.lookup x==af .cell))
def fdR(K:eI)(ct:Ct)(fd:dR)(gb:aC):aC:=(fd.scope.kind== .function)&&((fd.scope.isGenerator==gb)&&(!fd.scope.isCoroutine&&(fd.closure.isEmpty&&(a_ fd.globals dk&&(a_ fd.builtins la&&(KL sQ K fd.code fd.qualname&&cqB K ct fd))))))
def plR(p:qJ):aC:=p.posonlyargs.isEmpty&&(p.vararg.isNone&&(p.kwonlyargs.isEmpty&&p.kwarg.isNone))
noncomputable abbrev H3:=FuncBody×ae (bI×dJ)×ae bI
def Uv(K:eI)(f:au):H3:=((fdOf K f).body,(fdOf K f).scope.names,(fdOf K f).params.args.map (·.arg))
def ws3(P:cC)(e:lg):H3:=(.stmts (e.b P).bA,e.ct.names,e.xs)
theorem K6{ct:Ct}{xs:ae bI}{fd:dR}{gb:aC}(n:fd.scope.names=ct.names)(c:ctB ct xs=true)(h:fdR K ct fd gb=true):fdB K ct xs fd gb=true:=
 have h1:=aF h
 have h2:=aF h1.2
 have h3:=aF h2.2
 have h4:=aF h3.2
 have h5:=aF h4.2
 have h6:=aF h5.2
 have h7:=aF h6.2
 have c1:=aF c
 have c2:=aF c1.2
 an (a4.mpr n) (an h1.1 (an h2.1 (an h3.1 (an h4.1 (an h5.1 (an h6.1 (an ((KM ..).symm.trans h7.1) (an c1.1 (an c2.1 (an c2.2 h7.2))))))))))
theorem MG{p:qJ}{xs:ae bI}(n:p.args.map (·.arg)=xs)(h:plR p=true):nQ p xs=true:=
 have h1:=aF h
 have h2:=aF h1.2
 have h3:=aF h2.2
 an h1.1 (an h2.1 (an h3.1 (an h3.2 (a4.mpr n))))
def stB(e:lg):aC:=ctB e.ct e.xs&&(a_ e.dm 0||e.xs==Nl)
def Pd(K:eI)(e:lg):aC:=y1 K e.f&&(fdR K e.ct (fdOf K e.f) false&&(plR (fdOf K e.f).params&&aX (a_ e.dm 0) (YV (fdOf K e.f).defaults) (TX K (fdOf K e.f))))
theorem zW{P:cC}{e:lg}(n:Uv K e.f=ws3 P e)(c:stB e=true)(h:Pd K e=true):B7 K e=true:=
 have n2:=cU (cU n).2
 have h1:=aF h
 have h2:=aF h1.2
 have h3:=aF h2.2
 an (an h1.1 (K6 n2.1 (aF c).1 h2.1)) (an (MG n2.2 h3.1) (by
  have z:=h3.2
  have c:=(aF c).2
  cases e0:a_ e.dm 0 with
  |true=>rw[e0] at z; exact z
  |false=>rw[e0] at z c; exact an z c))
def abI(K:eI)(f:au):aC:=y1 K f&&(fdR K kI (fdOf K f) true&&(plR (fdOf K f).params&&YV (fdOf K f).defaults))
noncomputable def gxs:ae bI:=["frame","scan"]
def KY(K:eI):aC:=FA.all (Pd K)&&(abI K 668&&(Pd K Wu&&(Pd K Wt&&(G4 K&&kH K))))
def Uw(K:eI):H3×H3×H3×ae H3:=(Uv K 668,Uv K 897,Uv K 902,FA.map λ e=>Uv K e.f)
def wsR(P:cC):H3×H3×H3×ae H3:=((fX (xv P),kI.names,gxs),ws3 P Wu,ws3 P Wt,FA.map (ws3 P))
end
theorem VS:(ctB kI gxs&&((Wu::Wt::FA).all stB))=true:=by kernel_rfl
theorem Pf{K:eI}{P:cC}(n:Uw K=wsR P)(h:KY K=true):Sb K=true/\Ky K=RZ P:=
 have n1:=cU n
 have n2:=cU n1.2
 have n3:=cU n2.2
 have nm:=iP.mp n3.2
 have g:=cU n1.1
 have g2:=cU g.2
 have c:=aF VS
 have cs:=aY.mp c.2
 have h1:=aF h
 have h2:=aF h1.2
 have h3:=aF h2.2
 have h4:=aF h3.2
 have k1:=aF h2.1
 have k2:=aF k1.2
 have k3:=aF k2.2
 ⟨an (aY.mpr λ e m=>zW (nm e m) (cs e (aP _ (aP _ m))) (aY.mp h1.1 e m)) (an (an k1.1 (an (K6 g2.1 c.1 k2.1) (an (MG g2.2 k3.1) k3.2)))
  (an (zW n2.1 (cs _ aR) h3.1) (an (zW n3.1 (cs _ (aP _ aR)) h4.1) h4.2))),
  congr (ah pa g.1) (congr (ah pa (cU n2.1).1) (congr (ah pa (cU n3.1).1) (iP.mpr λ e m=>(cU (nm e m)).1)))⟩
theorem Ot.of{p:aK}{w:bw}{s:jk}(a:Nx (uv s Il) (Vw s) TT=true)(b:KY (uv s Il)=true)(c:Uw (uv s Il)=wsR (P0 p w))(d:(Cm s dM,(Cm s di).isSome)=(af (ti #[]),true)):Ot p w Il s.abs:=
 have e:=Pf c b
 ⟨wy s Il▸Ny (λ aa aa=>QN) a,wy s Il▸e.1,wy s Il▸e.2,(Aa s dM).symm.trans (cU d).1,(ah Option.isSome (Aa s di)).symm.trans (cU d).2⟩
def wellP(p:aK):aC:=(re p).wellSaid
lay_quick wellP
noncomputable abbrev wX:=gT
theorem SP(w w':bw):(endsP wX w).map (λ s=>(seenP wX (view wX [82]) E9 s,(Cm s dM,(Cm s di).isSome),Uw (uv s Il),Nx (uv s Il) (Vw s) TT,KY (uv s Il)))=af (openGood (view wX [82]) E9,(af (ti #[]),true),wsR (P0 wX w'),true,true):=by
 rw[PySem.W.Fast.te1907667993246908095,PySem.W.Fast.te8242757353448015592,PySem.W.Fast.te3486900944545009338]
 kernel_rfl
theorem L7:LeftO wX (view wX [82]) E9 (λ aa=>true) (λ s=>∀w,Ot wX w Il s) (λ aa=>True) 13100:=
 P6 (λ w=>(eK.mp (SP w w)).elim λ s z=>eK.mpr ⟨s,z.1,(cU z.2).1⟩) λ w s e w'=>
  have z1:=cU (cU (map_some (SP w w') e)).2
  have z2:=cU z1.2
  have z3:=cU z2.2
  Ot.of z3.1 z3.2 z2.1 z1.1
def Ts:aC->ae aC->aC
 |b,[]=>b
 |b,x::r=>Ts (b&&x) r
theorem Gh:∀{b:aC} {l:ae aC},b=true->l.all id=true->Ts b l=true
 |_,[]=>λ h aa=>h
 |b,x::r=>λ h k=>Gh (b:=b&&x) (l:=r) (bN.mpr ⟨h,(aF k).1⟩) (aF k).2
def rp(p:aK):{x:aC×ae aC // PySem.W.Fast.tw10261682018367036896 p=Ts x.1 x.2}:=⟨(_,[_,_,_,_,_,_,_,_,_,_,_,_,_,_,_,_,_,_,_,_,_,_,_,_,_,_,_,_,_,_,_,_,_,_,_,_,_,_,_]),rfl⟩
theorem M4:((rp wX).1.1&&((rp wX).1.2.take 3).all id)=true:=by kernel_rfl
theorem VC:(((rp wX).1.2.drop 3).take 1).all id=true:=by kernel_rfl
theorem VD:(((rp wX).1.2.drop 4).take 1).all id=true:=by kernel_rfl
theorem VE:((rp wX).1.2.drop 5).all id=true:=by kernel_rfl
theorem M5:wellP wX=true:=by
 rw[PySem.W.Fast.te10261682018367036896]
 refine(rp wX).2.trans (Gh (aF M4).1 ?_)
 show((rp wX).1.2.take 3++(((rp wX).1.2.drop 3).take 1++(((rp wX).1.2.drop 4).take 1++(rp wX).1.2.drop 5))).all id=true
 rw[jY,jY,jY,(aF M4).2,VC,VD,VE]
 rfl
end Mine
set_option maxHeartbeats 0
namespace Mine
theorem Ql:dM∉Il:=by decide+kernel
theorem MJ:(re wX).row.toRowW.promised:=⟨[.list []],by rfl,by rfl⟩
theorem QP(VB:(re wX).row.wellSaid=true):(re wX).row.Holds:=
 IN Ql L7 (by decide+kernel) (by decide+kernel) ⟨rfl,rfl,rfl,rfl,rfl,by decide+kernel⟩ (by rfl) (by rfl) (by rfl) MJ VB
theorem P4:(re wX).Holds:=holds_law M5 QP
end Mine
end
theorem PySem.Challenge.cw_nz0260_01_holds : PySem.Challenge.rw_nz0260_01.Holds :=
 Mine.P4
