import PyProof.Rows.All
import Wide.All
import OpenK.AllK
import Wide.FinOn
import PySem.Challenge.RW_pq0016_01
open Array renaming getElem?_toList→Dp,length_toList→Gs,getElem?_eq_getElem→KZ,getElem?_eq_some_iff→Nn,toList_push→QF,toList_inj→ic,mem_toList_iff→Zda
open Bool renaming and_eq_true→Fg,false_ne_true→Gq,false_eq_true→HN,not_true→Im,or_false→i4,and_eq_true_iff→Zd5,not_eq_eq_eq_not→Ze5
open Classical renaming byContradiction→TC,em→gt,epsilon→Zd7,epsilon_spec→Zd8
open False renaming elim→DL
open ForInStep renaming yield→QD
open Function renaming comp→Nw
open Inhabited renaming default→Bk
open Int renaming toNat_natCast→EN,zero_add→Jg,add_zero→NV,toNat_of_nonneg→XU,le_trans→XV,natCast_nonneg→Xq,add_assoc→gp,mul_zero→gq,ofNat_le→gr,le_of_lt→gu,lt_trans→gx,not_lt→iA,fmod_nonneg_of_pos→Zea
open Int.ofNat renaming inj→i6
open List renaming length_map→AU,mem_singleton→Aq,mem_cons→A7,mem_map→BD,length_append→BJ,getElem?_eq_some_iff→BX,map_map→Bu,range→B3,mem_append→B9,map_cons→CB,getElem?_map→CH,map_append→Cr,length_singleton→C5,mem_of_getElem?→C6,mem_filter→Dd,mem_cons_self→Dg,getElem?_eq_getElem→Dq,map_congr_left→Dr,mem_append_right→Ed,getElem?_append_left→El,length_zipIdx→Em,nodup_cons→FM,all_eq_true→Fe,getElem?_eq_none_iff→GV,take_add_one→Gy,not_mem_nil→HR,getElem?_set_ne→Hy,take_of_length_le→Ig,length_set→Ij,getElem?_append_right→Ik,map→Il,mem_append_left→Jh,filter_map→Jl,pairwise_cons→Jm,getElem?_set_self→Jo,eq_nil_of_length_eq_zero→Lh,getElem?_eq_none→Lq,filter_cons→Ls,length_range→Lz,mem_range→MA,foldl_cons→MB,pairwise_map→Nf,nodup_append→Nm,filterMap_cons→Np,length_take→Nv,zipIdx_append→Nx,length_filter_le→Ny,of_mem_zip→QA,lookup_cons→QB,pairwise_iff_getElem→QK,map_id→QQ,foldl_append→QS,toArray→QT,mem_cons_of_mem→TT,getElem_mem→TW,append_nil→TX,length_cons→Tb,ext_getElem?→Tm,filter_congr→Tn,take_left'→Tp,eq_nil_or_concat→Tq,concat_eq_append→Ts,getElem?_of_mem→Tu,reverse_cons→Xd,zip_cons_cons→Xi,find?_cons→Xm,append_assoc→YD,find?_eq_none→YI,filter_sublist→YL,filter_eq_nil_iff→hG,getElem?_range→iI,filter_append→iJ,eraseIdx_cons_succ→iO,nodup_nil→ii,Pairwise→il,pairwise_append→im,pairwise_lt_range→io,take_length→iq,range_succ→i7,length→i9,length_eq_zero_iff→jE,sum_cons→jF,dropLast_concat→jI,filter_eq_self→Zdh,mem_iff_getElem?→Zdm,length_eraseIdx→Zds,flatten_append→Ze0,pairwise_singleton→Ze3,mem_of_mem_take→Zee,mem_map_of_mem→Zef,mk_mem_zipIdx_iff_getElem?→Zeg
open List.Perm renaming swap→ix
open List.cons renaming injEq→QO,inj→iN
open Max renaming max→EH
open Min renaming min→De
open Nat renaming le_trans→AK,le_of_eq→Ac,le_refl→A9,zero_le→Bc,ne_of_lt→Bm,succ_le_succ→CD,le_of_succ_le→Ct,succ_pos→Cu,lt_irrefl→EI,le_of_not_lt→EM,le_antisymm→Ej,le_succ_of_le→GU,le_succ→Gv,ne_of_gt→HP,lt_succ_of_lt→Hx,not_lt_zero→Li,le_total→NW,lt_succ_self→Nk,lt_of_lt_of_le→N1,le_of_lt→QC,sub_self→QR,min_eq_left→TD,min_eq_right→TE,max_eq_right→TF,max_eq_left→TG,lt_of_succ_lt_succ→XW,lt_of_le_of_lt→Xv,strongRecOn→YF,not_lt→hX,lt_trans→ik,exists_eq_succ_of_ne_zero→i8,le_of_ble_eq_true→Zd6,add_le_add_right→Zdq
open Nat.succ renaming inj→XT
open Option renaming some_ne_none→Ag,ne_none_iff_exists'→Ee,isSome_iff_exists→Ll,map_eq_some_iff→Pt,isSome_some→QP,map→YH,or_none→YJ,isSome_none→YK,getD_some→jH,map_eq_none_iff→Ze6,not_isSome_iff_eq_none→Zeb
open Option.some renaming inj→An
open Prod.mk renaming inj→NX
open PyProof.Rows renaming seqObj→Bn,Good→Bv,Back→HT,IntsAre→Ji,sortedHeap→Tc,get?_update_seq→Td,size_push'→Xu,callWith_type→hF
open PyProof.Rows.F renaming plain_set_update_loop→ir,entry_set_update_loop→Zdo
open PySem renaming Addr→AB,World→AD,wpAny_bind→AE,Shared→AQ,wpAny→AR,wpAny_mono→AT,Around→Ab,wpAny_pure→Ad,model→Ae,Env→Af,FuncData→Aj,eval→A0,Heap→A3,Pos→A8,callEnv→BA,starEach→BZ,mainGlobals→Bh,rawInt→Bi,wpAny_holding→CF,sizeLine_eq→CG,holding→CS,standAt→Ck,Obj→C0,Scope→C1,Stmt→DD,backTo→Df,compareOp→Dx,wpAny_standAt→EJ,callWith→EK,intKind→E8,codeAny→FA,NameKind→FN,execs→Ff,assign→Fh,exec→GR,getMethod→GT,OsState→Gm,GenState→Gp,bootBuiltins→Gr,callEnvC→Gu,foldedSetIterable→Gw,relabel→Gx,bindArgs→HK,cellsFrom→HL,wpAny_call_entry→HM,Program→Ht,cLine→Hu,backToKw→Hv,keywordEach→Hw,StrKeys→Ia,nsFind→Ib,Flow→Ic,getItem→Ih,Drawn→Io,pyNext→Jj,Result→Jn,scanBound→KT,binaryOp→KU,wpAny_askSetting→KV,wpAny_call→KW,atKey→KY,wpAny_field→Ka,importedModules→Lg,wpAny_loadName_local→Lj,release→Lk,getAttr→Lm,letTemporaryGo→Ln,wpAny_of_eq→Lo,compEnvC→Lp,valueAt→Lr,wpAny_rule→Lv,PyData→Lw,wpAny_setField→L1,Expr→L7,wpAny_Name→NY,typeOf→Nc,pyIter→Ng,noteFrame→Nh,wpAny_newObj_type→Ni,sizeLine→Nj,delItem→Nl,typeLookup→No,codeAny_mono→Nq,Slot→Nr,codeAny_builtin→Nu,wpAny_loadPart_at→Nz,wpAny_truthy_bool→Pv,wpAny_execs_cons→Pw,swapsWith→Px,wpAny_assign_Name→Py,compPost→QE,intItems→QI,wpAny_setState_of→QL,argsOk→QN,Builtin→S9,builtinsNs→TH,wpAny_Constant_str→TI,wpAny_items_nil→TJ,wpAny_items_cons→TL,wpAny_Call_Name_kw→TO,call_meetsIn→TS,compTurn→TU,newList→TV,atKey_none_of_get→TZ,wpAny_specialOf→Ta,wpAt_mono→Tf,relayAll→Tg,codeAny_of_tree→Ti,pickOrder→Tj,isInstance→Tk,DictEntry→XX,behindInMarks→XZ,wpAny_execs_nil→Xa,wpAny_storeName_local→Xb,assignEach→Xc,wpAny_loadPart→Xf,letOwnedTupleGo→Xj,comprehension→Xk,wpAny_list_append_plain→Xl,evalPart_none→Xr,wpAny_typeOf→Xs,wpAt→Xw,intKind_is→Xz,plainId_quiet→X0,typeLookup_type→YA,builtinLookup_eq_fast→YB,isSubtype_type→YC,wpAny_load→YE,pushCells→YM,wpAny_mkText→g6,codeAny_loop→iC,theTreesLotGoes→iD,wpAny_comprehension_free→iE,lookup_relabel_local→iF,codeAny_compStart_list→iG,wpAny_delItem_slot→iM,wpAny_dictEntries→iQ,size_of_entries→iR,slot_dict_contains→iS,wpAny_notOrdered_dict→iT,slot_dict_getitem→iV,wpAny_callSpecial?_slot→iW,wpAny_listPart→iY,wpAny_seqItems→iZ,wpAny_updateSeq→ib,fits_of_scanBound→ip,codeAny_call_builtin→iw,wpAny_setEntries_of→iz,wpAny_attempt→i3,wpAny_newList→i5,checkBoundCall→jC,pairTrees_cons_walk→jG,wpAny_getItem_list_slice→Zdj
open PySem.Around renaming frames_deeper→Ke,under_plainId→Th
open PySem.Builtin.Dict renaming takeOut→iP,keyAndDefault→Zdi
open PySem.Builtin.Frozenset renaming sizeOf→Zdu
open PySem.Builtin.List renaming listTooLong→iK,listSubscript?→iX,listItems→Zdk,listLengthHint→Zdv,listExtendWith→Zdx,listSameRef→Zdy
open PySem.Builtin.ObjectAttr renaming storeInDict→Ze8
open PySem.Builtin.Range renaming rangeSize→hZ,small→Zdc
open PySem.Builtin.Str renaming occurrences→Zdl
open PySem.Calls renaming Name_function_global→XY,loadGlobal_global→gy,loadGlobal_builtin→g4,callWith_function→g7,callWith_builtin→g8,call_function_entry→Zdz
open PySem.Code renaming builtin→Te,quiet_builtin→X8
open PySem.DictEntry renaming refKey→Zdb
open PySem.Expr renaming Name→YG
open PySem.F renaming slot_list_pop→FO,slot_list_append→Fj,type_list_append→Fk,type_list_pop→Fl,called_set→Ly,slot_dict_setdefault→TY,slot_dict_delitem→Xn,slot_dict_pop→Xo,slot_list_extend→iL,type_dict_setdefault→jA,ks_slot_super_ga→jB,plainAttrs_dict→Zdd,slot_dict_values→Zde,entry_dict_setdefault→Zdf,args_dict_setdefault_3→Zdg,plain_set_new→Zdp,slot_set_iter→Zdt,plain_list_iadd→Zdw,plainAttrs_list→Ze1,type_list_extend→Ze2,type_dict_pop→Ze4,excBase_Exception→Ze7
open PySem.Heap renaming get?_push_of_some→BC,get?_push_size→Bz,lt_size→DJ,SameBut→E9,get?_update_self→GS,get?_update_other→HO,get?_none_of_le→Ie,size_push→Jk,size_update→QH,get?_push_ne→QU,HeldW→Tt,ExtBut→g5,FlyingW→jD,get?_update_ne→Ze9
open PySem.Heap.SameBut renaming update→Ei
open PySem.Obj renaming mapSeq→DV,putName→NZ,putNameByArray→Xe,isFreed_of_dict→Xg,data_mapDictKeys→Xp
open PySem.PyData renaming eqv→HQ,keyHash→Na,depthAll→ie,canLay0→ig,canLayAll0→Zec
open PySem.SeqAt renaming shaped→Ii
open PySem.SetTable renaming below→Ek,grown→QM
open PySem.SetTable.Met renaming candidate→Zdn
open PySem.SetTable.Met.empty renaming inj→Zeh
open PySem.SetTable.below renaming go→Kb
open PySem.SetTable.probe renaming go→Xy
open PySem.Shared renaming TypeIs→iu
open PySem.Str renaming ofString→QG
open PySem.Value renaming type→Ef,ref→Fi,none→Lu,int→Nt,isInt_shape→Pu
open PySem.Value.ref renaming inj→TQ
open PySem.Value.str renaming inj→Zd9
open PySem.W renaming nsIn→Cj,emptyDict→EL,kqdP→EO,boot_heap→Gn,hideAll→Hz,Looks→Kd,kqdPs→Kf,methodObj→Lx,keepIn→Nb,SharedT→Ps,findIn→Pz,instObj→QJ,boot_drawn→TA,boot_toks→TB,plainGet_of→TM,looks_clsIn→TN,codeRec_of→TP,staticsOk→XR,namesBound→XS,methodCall_KW→Xh,looks_mroIn→Xx,looks_findIn→ij
open PySem.W.WShape renaming has→jJ
open PySem.pickOrder renaming go→iy
open String renaming splitOnAux→Zdr
open PySem PySem.W PySem.Calls PyProof.Rows
set_option compiler.extract_closed false
set_option bootstrap.genMatcherCode false
set_option Elab.async false
set_option maxRecDepth 100000
set_option linter.all false
namespace Internal
noncomputable def PT(tb:String→Option S9)(p:Ht)(w:AD)(m:Nat)(a0:Option Value):Nat→Ps→Thread→Option Ps
  |0,_,_=>none
  |n+1,s,t=>match through t with
    |true=>some s
    |false=>match stepOk m a0 t with
      |false=>none
      |true=>match stepT (denote tb) p w s t with
        |some (s',t')=>PT tb p w m a0 n s' t'
        |none=>none
theorem pX{tb:String→Option S9}{p:Ht}{w:AD}{m:Nat}{a0:Option Value}{n:Nat}:∀{s s':Ps}{t:Thread},PT tb p w m a0 n s t=some s'→topRun tb p w m a0 n s.abs t=some s'.abs:=by
  induction n with
  |zero=>intro s s' t h;cases h
  |succ n ih=>
    intro s s' t h;unfold PT at h;unfold topRun;cases he:through t with
    |true=>rw[he]at h;cases h;rfl
    |false=>
      rw[he]at h;cases hk:stepOk m a0 t with
      |false=>rw[hk]at h;cases h
      |true=>
        rw[hk]at h;cases hs:stepT (denote tb) p w s t with
        |none=>rw[hs]at h;cases h
        |some r=>obtain⟨s₂,a1⟩:=r;rw[hs]at h;rw[stepT_spec hs];exact ih h
noncomputable def q9(l:List C0):BT:=(l.foldl (fun(x:BT×Nat) o=>(x.1.ins x.2 o,x.2+1)) (.nil,0)).1
noncomputable def SO(w:AD)(os:Gm):Ps:=⟨q9 (Gn w.params).objs.toList,(Gn w.params).objs.size,(Gn w.params).life,#[],TA,TB,os⟩
noncomputable abbrev Gz:Ht:=PySem.Challenge.pw_pq0016_01
noncomputable def vw:Ht:=view Gz [0,2,3,5,6,7,9,11,13,14,16,17,18,19,20,21,22,23]
noncomputable abbrev Qa:AQ→Bool:=fun s=>xlAt vw [] s&&recOk [] s
theorem lB(w:AD)(os:Gm):(SO w os).abs=⟨Gn w.params,#[],TA,TB,os⟩:=by kernel_rfl
noncomputable abbrev fM(w:AD)(os:Gm):Option Ps:=(PT treeTable Gz w (Gn w.params).objs.size ((Gn w.params).nsMap Bh "__annotations__") 4000 (SO w os) (topStub Gz))
theorem wF:∀(w:AD),((Gn w.params).isNs Bh&&(#[]:Array Gp).size==0)=true:=by intro w;kernel_rfl
theorem xG(w:AD):∃os,fencedOpening treeTable Gz w 4000=some ⟨Gn w.params,#[],TA,TB,os⟩:=by
  have hb:=boot_open (p:=Gz) (N:=4000) (by kernel_rfl) (by decide) (fun s=>by kernel_rfl) w;obtain⟨⟨h,n,d,k,os⟩,e,m⟩:=Pt.mp hb;obtain⟨rfl,rfl,rfl,rfl⟩:h=Gn w.params∧n=#[]∧d=TA∧k=TB:=by simpa using m
  exact⟨os,e⟩
theorem rq{m:String→Option S9}{p:Ht}{w:AD}{N:Nat}{s₀ s₁:AQ}(h1:(s₀.heap.isNs Bh&&s₀.gens.size==0)=true)(n:topRun m p w s₀.heap.objs.size (s₀.heap.nsMap Bh "__annotations__") N s₀ (topStub p)=some s₁)
    (h3:(XR (Lg p.main.body) s₀.heap s₁.heap&&XS p s₁.heap&&gensDone s₁&&laidKept s₀.heap s₁.heap)=true):topFrom m p w N s₀=some s₁:=by
  unfold topFrom;rw[h1,n];show(match(XR (Lg p.main.body) s₀.heap s₁.heap&&XS p s₁.heap&&gensDone s₁&&laidKept s₀.heap s₁.heap)with|true=>_|false=>_)=_
  rw[h3]
theorem tI{m:String→Option S9}{p q:Ht}{loose:List Str}{Xt:AQ→Bool}{α:Type}{Yf:AQ→α}{x:α}{w:AD}{N:Nat}{s₀ s₁:AQ}(e:fencedOpening m p w N=some s₀)(t:topFrom m p w N s₀=some s₁)
    (l1:openSeen q loose (Lg p.main.body) Xt true s₁=openGood q loose)(l2:Yf s₁=x):(openEnds m p w N).map (fun s=>(openSeen q loose (Lg p.main.body) Xt true s,Yf s))=some (openGood q loose,x):=by
  unfold openEnds;rw[e];show(topFrom m p w N s₀).map _=_;rw[t];exact congrArg some (Prod.ext l1 l2)
theorem Wh{α β γ:Type}{a n:α}{b m:β}{c c':γ}(h:(a,b,c)=(n,m,c')):a=n∧b=m∧c=c':=⟨congrArg (·.1) h,congrArg (·.2.1) h,congrArg (·.2.2) h⟩
theorem xe{tb:String→Option S9}{p:Ht}{w:AD}{m:Nat}{a0:Option Value}{n:Nat}{s s':Ps}{t:Thread}{a:AQ}(e:s.abs=a)(h:PT tb p w m a0 n s t=some s'):topRun tb p w m a0 n a t=some s'.abs:=e▸pX h
theorem yw{H:Hook}(h:∀w os,(fM w os).map (fun s=>(H.obs s.abs,(XR (Lg Gz.main.body) (Gn w.params) s.abs.heap&&XS Gz s.abs.heap&&gensDone s.abs&&laidKept (Gn w.params) s.abs.heap),openSeen vw [] (Lg Gz.main.body) Qa true s.abs))=some (H.val w,true,openGood vw [])):LeftO Gz vw [] Qa H.obs H.val 4000:=fun w=>
  (xG w).elim fun os e=>(Pt.mp (h w os)).elim fun s r=>tI e (rq (s₀:=⟨Gn w.params,#[],TA,TB,os⟩) (wF w) (xe (lB w os) r.1) (Wh r.2).2.1) (Wh r.2).2.2 (Wh r.2).1
theorem ja:PySem.Challenge.rw_pq0016_01.wellSaid=true:=(congrFun PySem.W.Fast.te9446332074065402090 _).trans (by kernel_rfl)
set_option maxHeartbeats 8000000
theorem hO{d:DefRec}{kwd:List (Str×Expr)}(H:Hook)
    (h:∀w os,(fM w os).map (fun s=>(H.obs s.abs,(XR (Lg Gz.main.body) (Gn w.params) s.abs.heap&&XS Gz s.abs.heap&&gensDone s.abs&&laidKept (Gn w.params) s.abs.heap),openSeen vw [] (Lg Gz.main.body) Qa true s.abs))=some (H.val w,true,openGood vw []))
    (hd:defOf vw PySem.Challenge.rw_pq0016_01.row.name=some (d,kwd))(hp:PySem.Challenge.rw_pq0016_01.row.prog.theDef PySem.Challenge.rw_pq0016_01.row.name=some (d.params,d.body,d.scope))(hk:kwWritten? d.params.kwonlyargs d.params.kw_defaults=some kwd)
    (hw:PySem.Challenge.rw_pq0016_01.row.toRowW.promised)(hc:WalkO vw [] (XL vw []) H.says PySem.Challenge.rw_pq0016_01.row.toRowW d kwd fun f vs=>PySem.call f vs):PySem.Challenge.rw_pq0016_01.row.Holds:=
  PySem.W.holds_open (q:=vw) (loose:=[]) (Xt:=Qa) (XP:=XL vw []) (Yf:=H.obs) (Ya:=H.val) (YP:=H.says) (N:=4000) (yw h) H.of H.keeps (fun s e=>xl_of s (Zd5.mp e).1) XL.keeps hd hp hk (fun s e=>recFacts_of (Zd5.mp e).2) (by rfl) (by decide+kernel) (by decide+kernel) ⟨rfl,rfl,rfl,rfl,rfl,by decide+kernel⟩ hw hc
theorem oL(h:PySem.Challenge.rw_pq0016_01.row.Holds):PySem.Challenge.rw_pq0016_01.Holds:=holds_law ja fun _=>h
end Internal
local macro_rules
  |`(tactic|o_head $H:term)=>`(tactic|(apply Internal.hO $H;intro w os;kernel_rfl;rfl;rfl;rfl))
local macro_rules
  |`(tactic|o_law)=>`(tactic|apply Internal.oL)
open_top hd for PySem.Challenge.rw_pq0016_01
noncomputable section
set_option maxHeartbeats 1600000
set_option genSizeOf false
set_option genInjectivity false
set_option tactic.hygienic false
set_option backward.match.sparseCases false
local macro_rules (kind:=Lean.Parser.Command.declaration)
  |s=>do
    if s.getPos?.isNone then Lean.Macro.throwUnsupported
    let m:=Lean.Syntax.node .none;let s:=s.rewriteBottomUp (·.setInfo .none)
    return if s[0][1].isNone&&(s[1][0].getAtomVal=="def"||s[1][0].getAtomVal=="abbrev")then s.setArg 0 (s[0].setArg 4 (m Lean.nullKind #[m `Lean.Parser.Command.noncomputable #[Lean.mkAtom "noncomputable"]]))else s
namespace Internal
section
section
universe u v w x y z a b c d e f g h
variable {α:Sort u}{β:Sort v}{γ:Sort w}{δ:Sort x}{ε:Sort y}{ζ:Sort z}{η:Sort a}{θ:Sort b}{ι:Sort c}{κ:Sort d}{μ:Sort e}{ν:Sort f}{ξ:Sort g}{ο:Sort h}{c:Prop}
variable {a b d e f g i j l:Prop}{A B C D E F G:α→Prop}{p q r s t o:α→β→Prop}{P Q R S T U V:α→β→γ→Prop}{H I J K L M:α→β→γ→δ→Prop}{N O W X Y Z:α→β→γ→δ→ε→Prop}
theorem AX(h:∃x,A x)(k:∀x,A x→c):c:=h.elim fun m n=>k m n
theorem AL(h:a∧b)(k:a→b→c):c:=k h.1 h.2
theorem Bx(h:∃x y,p x y)(k:∀x y,p x y→c):c:=h.elim fun m n=>n.elim fun m1 n1=>k m m1 n1
theorem Fw(h:a∧∃x,A x)(k:a→∀x,A x→c):c:=h.2.elim fun m n=>k h.1 m n
theorem AI(h:∃x,A x∧B x)(k:∀x,A x→B x→c):c:=h.elim fun m n=>k m n.1 n.2
theorem LN(h:∃x y z,P x y z)(k:∀x y z,P x y z→c):c:=h.elim fun m n=>n.elim fun m1 n1=>n1.elim fun m2 n2=>k m m1 m2 n2
theorem BN(h:a∧b∧d)(k:a→b→d→c):c:=k h.1 h.2.1 h.2.2
theorem GC(h:∃x,(∃y,p x y)∧A x)(k:∀x y,p x y→A x→c):c:=h.elim fun m n=>n.1.elim fun m1 n1=>k m m1 n1 n.2
theorem Cp(h:∃x y,p x y∧q x y)(k:∀x y,p x y→q x y→c):c:=h.elim fun m n=>n.elim fun m1 n1=>k m m1 n1.1 n1.2
theorem EY(h:∃x y z u,H x y z u)(k:∀x y z u,H x y z u→c):c:=h.elim fun m n=>n.elim fun m1 n1=>n1.elim fun m2 n2=>n2.elim fun m3 n3=>k m m1 m2 m3 n3
theorem RB(h:a∧∃x,A x∧B x)(k:a→∀x,A x→B x→c):c:=h.2.elim fun m n=>k h.1 m n.1 n.2
theorem B2(h:∃x,A x∧B x∧C x)(k:∀x,A x→B x→C x→c):c:=h.elim fun m n=>k m n.1 n.2.1 n.2.2
theorem Kv(h:∃x y z,P x y z∧Q x y z)(k:∀x y z,P x y z→Q x y z→c):c:=h.elim fun m n=>n.elim fun m1 n1=>n1.elim fun m2 n2=>k m m1 m2 n2.1 n2.2
theorem Bs(h:a∧b∧d∧e)(k:a→b→d→e→c):c:=k h.1 h.2.1 h.2.2.1 h.2.2.2
theorem MU(h:a∧∃x y,p x y∧q x y)(k:a→∀x y,p x y→q x y→c):c:=h.2.elim fun m n=>n.elim fun m1 n1=>k h.1 m m1 n1.1 n1.2
theorem Ec(h:∃x y,p x y∧q x y∧r x y)(k:∀x y,p x y→q x y→r x y→c):c:=h.elim fun m n=>n.elim fun m1 n1=>k m m1 n1.1 n1.2.1 n1.2.2
theorem Jp(h:∃x y z u,H x y z u∧I x y z u)(k:∀x y z u,H x y z u→I x y z u→c):c:=h.elim fun m n=>n.elim fun m1 n1=>n1.elim fun m2 n2=>n2.elim fun m3 n3=>k m m1 m2 m3 n3.1 n3.2
theorem Me{p0:γ→Prop}(h:(∃x y,p x y∧q x y)∧∃z,p0 z)(k:∀x y,p x y→q x y→∀z,p0 z→c):c:=h.1.elim fun m n=>n.elim fun m1 n1=>h.2.elim fun m2 n2=>k m m1 n1.1 n1.2 m2 n2
theorem LD(h:a∧∃x,A x∧B x∧C x)(k:a→∀x,A x→B x→C x→c):c:=h.2.elim fun m n=>k h.1 m n.1 n.2.1 n.2.2
theorem IG(h:∃x,A x∧B x∧C x∧D x)(k:∀x,A x→B x→C x→D x→c):c:=h.elim fun m n=>k m n.1 n.2.1 n.2.2.1 n.2.2.2
theorem O0(h:∃x y z,P x y z∧Q x y z∧R x y z)(k:∀x y z,P x y z→Q x y z→R x y z→c):c:=h.elim fun m n=>n.elim fun m1 n1=>n1.elim fun m2 n2=>k m m1 m2 n2.1 n2.2.1 n2.2.2
theorem LA(h:a∧b∧d∧e∧f)(k:a→b→d→e→f→c):c:=k h.1 h.2.1 h.2.2.1 h.2.2.2.1 h.2.2.2.2
theorem MY(h:a∧∃x y,p x y∧q x y∧r x y)(k:a→∀x y,p x y→q x y→r x y→c):c:=h.2.elim fun m n=>n.elim fun m1 n1=>k h.1 m m1 n1.1 n1.2.1 n1.2.2
theorem PG(h:∃x,(∃y z u,H x y z u∧I x y z u)∧A x)(k:∀x y z u,H x y z u→I x y z u→A x→c):c:=h.elim fun m n=>n.1.elim fun m1 n1=>n1.elim fun m2 n2=>n2.elim fun m3 n3=>k m m1 m2 m3 n3.1 n3.2 n.2
theorem mW(h:∃x y,p x y∧q x y∧r x y∧s x y)(k:∀x y,p x y→q x y→r x y→s x y→c):c:=h.elim fun m n=>n.elim fun m1 n1=>k m m1 n1.1 n1.2.1 n1.2.2.1 n1.2.2.2
theorem Rn(h:∃x y z u,H x y z u∧I x y z u∧J x y z u)(k:∀x y z u,H x y z u→I x y z u→J x y z u→c):c:=h.elim fun m n=>n.elim fun m1 n1=>n1.elim fun m2 n2=>n2.elim fun m3 n3=>k m m1 m2 m3 n3.1 n3.2.1 n3.2.2
theorem OC(h:∃x y,p x y∧(∃z,P x y z∧Q x y z)∧q x y)(k:∀x y,p x y→∀z,P x y z→Q x y z→q x y→c):c:=h.elim fun m n=>n.elim fun m1 n1=>n1.2.1.elim fun m2 n2=>k m m1 n1.1 m2 n2.1 n2.2 n1.2.2
theorem qz(h:∃x y z,P x y z∧Q x y z∧R x y z∧S x y z)(k:∀x y z,P x y z→Q x y z→R x y z→S x y z→c):c:=h.elim fun m n=>n.elim fun m1 n1=>n1.elim fun m2 n2=>k m m1 m2 n2.1 n2.2.1 n2.2.2.1 n2.2.2.2
theorem Jy(h:∃x,(∃y z u,H x y z u∧I x y z u∧J x y z u)∧A x)(k:∀x y z u,H x y z u→I x y z u→J x y z u→A x→c):c:=h.elim fun m n=>n.1.elim fun m1 n1=>n1.elim fun m2 n2=>n2.elim fun m3 n3=>k m m1 m2 m3 n3.1 n3.2.1 n3.2.2 n.2
theorem RA(h:a∧∃x y z,P x y z∧Q x y z∧R x y z∧S x y z)(k:a→∀x y z,P x y z→Q x y z→R x y z→S x y z→c):c:=h.2.elim fun m n=>n.elim fun m1 n1=>n1.elim fun m2 n2=>k h.1 m m1 m2 n2.1 n2.2.1 n2.2.2.1 n2.2.2.2
theorem UX(h:∃x,(∃y z u,H x y z u∧I x y z u∧J x y z u∧K x y z u)∧A x)(k:∀x y z u,H x y z u→I x y z u→J x y z u→K x y z u→A x→c):c:=h.elim fun m n=>n.1.elim fun m1 n1=>n1.elim fun m2 n2=>n2.elim fun m3 n3=>k m m1 m2 m3 n3.1 n3.2.1 n3.2.2.1 n3.2.2.2 n.2
theorem PE(h:∃x y z,P x y z∧Q x y z∧R x y z∧S x y z∧T x y z∧U x y z)(k:∀x y z,P x y z→Q x y z→R x y z→S x y z→T x y z→U x y z→c):c:=h.elim fun m n=>n.elim fun m1 n1=>n1.elim fun m2 n2=>k m m1 m2 n2.1 n2.2.1 n2.2.2.1 n2.2.2.2.1 n2.2.2.2.2.1 n2.2.2.2.2.2
theorem J6(h:∃x y z u v,N x y z u v∧O x y z u v∧W x y z u v∧X x y z u v∧Y x y z u v)(k:∀x y z u v,N x y z u v→O x y z u v→W x y z u v→X x y z u v→Y x y z u v→c):c:=h.elim fun m n=>n.elim fun m1 n1=>n1.elim fun m2 n2=>n2.elim fun m3 n3=>n3.elim fun m4 n4=>k m m1 m2 m3 m4 n4.1 n4.2.1 n4.2.2.1 n4.2.2.2.1 n4.2.2.2.2
theorem RY{p0:β→Prop}{p1:β→Prop}{p2:β→Prop}(h:a∧b∧d∧(∃x,A x)∧∃y,p0 y∧p1 y∧p2 y)(k:a→b→d→∀x,A x→∀y,p0 y→p1 y→p2 y→c):c:=h.2.2.2.1.elim fun m n=>h.2.2.2.2.elim fun m1 n1=>k h.1 h.2.1 h.2.2.1 m n m1 n1.1 n1.2.1 n1.2.2
theorem M8{p0:α→β→γ→δ→ε→ζ→η→θ→ι→κ→μ→ν→ξ→ο→Prop}(h:∃x y z u v w t o s r q p n m,p0 x y z u v w t o s r q p n m)(k:∀x y z u v w t o s r q p n m,p0 x y z u v w t o s r q p n m→c):c:=h.elim fun m n=>n.elim fun m1 n1=>n1.elim fun m2 n2=>n2.elim fun m3 n3=>n3.elim fun m4 n4=>n4.elim fun m5 n5=>n5.elim fun m6 n6=>n6.elim fun m7 n7=>n7.elim fun m8 n8=>n8.elim fun m9 n9=>n9.elim fun l1 l2=>l2.elim fun l3 l4=>l4.elim fun l5 l6=>l6.elim fun l7 l8=>k m m1 m2 m3 m4 m5 m6 m7 m8 m9 l1 l3 l5 l7 l8
theorem Rz(h:∃x y z,P x y z∧Q x y z∧R x y z∧S x y z∧T x y z∧U x y z∧V x y z)(k:∀x y z,P x y z→Q x y z→R x y z→S x y z→T x y z→U x y z→V x y z→c):c:=h.elim fun m n=>n.elim fun m1 n1=>n1.elim fun m2 n2=>k m m1 m2 n2.1 n2.2.1 n2.2.2.1 n2.2.2.2.1 n2.2.2.2.2.1 n2.2.2.2.2.2.1 n2.2.2.2.2.2.2
theorem Sb(h:a∧∃x y z,P x y z∧(∃u,H x y z u∧I x y z u∧J x y z u)∧Q x y z∧R x y z)(k:a→∀x y z,P x y z→∀u,H x y z u→I x y z u→J x y z u→Q x y z→R x y z→c):c:=h.2.elim fun m n=>n.elim fun m1 n1=>n1.elim fun m2 n2=>n2.2.1.elim fun m3 n3=>k h.1 m m1 m2 n2.1 m3 n3.1 n3.2.1 n3.2.2 n2.2.2.1 n2.2.2.2
theorem Au{α:Type _}{x:α}{c:Prop}(e:none=some x):c:=nomatch e
theorem Bf{α:Type _}{x:α}{c:Prop}(e:some x=none):c:=nomatch e
theorem CN{c:Prop}[Decidable c]{a b:Prop}(h:c)(x:a):if c then a else b:=by rw[if_pos h];exact x
theorem ZY{c:Prop}[Decidable c]{a b:Prop}(h:¬c)(x:b):if c then a else b:=by rw[if_neg h];exact x
theorem Qt(h:a∧∃x y,p x y)(k:a→∀x y,p x y→c):c:=h.2.elim fun m n=>n.elim fun m1 n1=>k h.1 m m1 n1
theorem Ba{b:Bool}{x y:Prop}(h:b=false)(k:y):if b=true then x else y:=ZY (by rw[h];exact Gq) k
theorem ln{a b c:Nat}(h:a≤b)(k:Nat.ble b c=true):a≤c:=AK h (Zd6 k)
theorem ld{a b:Nat}(k:Nat.ble a b=true):a≤b:=Zd6 k
theorem IM{α:Type _}{n:Nat}{vs:List α}(h:vs.length=n+1):∃a t,t.length=n∧vs=a::t:=by
 cases vs with
 |nil=>exact nomatch h
 |cons a t=>exact⟨a,t,XT h,rfl⟩
theorem R2{α:Type _}{vs:List α}(h:vs.length=0):vs=[]:=Lh h
theorem FG{fd:Aj}{n:Str}(h:∀m,HK fd ⟨[m],[]⟩=pure [(n,m)])(vs:List Value)(hv:vs.length=[n].length):HK fd ⟨vs,[]⟩=pure ([n].zip vs):=by
 refine Cp (IM hv) fun m t0 z0 e0=>?_;subst e0;cases R2 z0;exact h m
theorem C9{fd:Aj}{x0 x1:Str}(h:∀m n,HK fd ⟨[m,n],[]⟩=pure [(x0,m),(x1,n)])(vs:List Value)(hv:vs.length=[x0,x1].length):HK fd ⟨vs,[]⟩=pure ([x0,x1].zip vs):=by
 refine Cp (IM hv) fun m t0 z0 e0=>?_;subst e0;refine Cp (IM z0) fun n t1 z1 e1=>?_;subst e1;cases R2 z1;exact h m n
theorem Js{fd:Aj}{x0 x1 x2:Str}(h:∀m n a2,HK fd ⟨[m,n,a2],[]⟩=pure [(x0,m),(x1,n),(x2,a2)])(vs:List Value)(hv:vs.length=[x0,x1,x2].length):HK fd ⟨vs,[]⟩=pure ([x0,x1,x2].zip vs):=by
 refine Cp (IM hv) fun m t0 z0 e0=>?_;subst e0;refine Cp (IM z0) fun n t1 z1 e1=>?_;subst e1;refine Cp (IM z1) fun a2 t2 z2 e2=>?_;subst e2;cases R2 z2;exact h m n a2
theorem LL{fd:Aj}{x0 x1 x2 x3:Str}(h:∀m a1 a2 n,HK fd ⟨[m,a1,a2,n],[]⟩=pure [(x0,m),(x1,a1),(x2,a2),(x3,n)])(vs:List Value)(hv:vs.length=[x0,x1,x2,x3].length):HK fd ⟨vs,[]⟩=pure ([x0,x1,x2,x3].zip vs):=by
 refine Cp (IM hv) fun m t0 z0 e0=>?_;subst e0;refine Cp (IM z0) fun a1 t1 z1 e1=>?_;subst e1;refine Cp (IM z1) fun a2 t2 z2 e2=>?_;subst e2;refine Cp (IM z2) fun n t3 z3 e3=>?_;subst e3;cases R2 z3;exact h m a1 a2 n
end
end
@[elab_as_elim]theorem er{α:Sort u}{b:α}{p:α→Prop}(a:α)(h:a=b)(k:p b):p a:=h▸k
@[elab_as_elim]theorem oH{α:Sort u}{b:α}{p:α→Prop}(a:α)(h:b=a)(k:p b):p a:=h▸k
inductive NE where
 |v (i:Nat)|n (k:Nat)|a (x y:NE)|m (k:Nat) (x:NE)
inductive IE where
 |c (x:NE)|n (k:Int)|a (x y:IE)|s (x y:IE)|g (x:IE)
inductive FE where
 |l (x y:NE)|t (x y:NE)|e (x y:NE)
 |L (x y:IE)|T (x y:IE)|E (x y:IE)
 |o (p:FE)|d (p q:FE)|r (p q:FE)|i (p q:FE)|w (p q:FE)|f
def RT:List Nat→Nat→Nat
 |[],_=>0
 |x::xs,0=>x
 |x::xs,i+1=>RT xs i
def NE.den(c:List Nat):NE→Nat
 |.v i=>RT c i
 |.n k=>k
 |.a x y=>x.den c+y.den c
 |.m k x=>k*x.den c
def IE.den(c:List Nat):IE→Int
 |.c x=>x.den c
 |.n k=>k
 |.a x y=>x.den c+y.den c
 |.s x y=>x.den c-y.den c
 |.g x=>-x.den c
def FE.den(c:List Nat):FE→Prop
 |.l x y=>x.den c≤y.den c
 |.t x y=>x.den c<y.den c
 |.e x y=>x.den c=y.den c
 |.L x y=>x.den c≤y.den c
 |.T x y=>x.den c<y.den c
 |.E x y=>x.den c=y.den c
 |.o p=>¬p.den c
 |.d p q=>p.den c∧q.den c
 |.r p q=>p.den c∨q.den c
 |.i p q=>p.den c→q.den c
 |.w p q=>p.den c↔q.den c
 |.f=>False
structure BV where
 k:Int
 cs:List Int
def ev:List Nat→List Int→Int
 |x::xs,a::m=>a*x+ev xs m
 |_,_=>0
def BV.den(c:List Nat)(l:BV):Int:=l.k+ev c l.cs
theorem x4(a b c d:Int):(a+b)+(c+d)=(a+c)+(b+d):=by rw[gp,gp,Int.add_left_comm b]
def OI:List Int→List Int→List Int
 |[],ys=>ys
 |x::xs,[]=>x::xs
 |x::xs,y::ys=>(x+y)::OI xs ys
theorem Jw(c:List Nat):ev c []=0:=by cases c<;>rfl
theorem uL:∀(xs ys:List Int)(c:List Nat),ev c (OI xs ys)=ev c xs+ev c ys:=by
 intro xs
 induction xs with
 |nil=>intro ys c;rw[Jw,Jg];rfl
 |cons x xs m=>
  intro ys c;cases ys with
  |nil=>rw[Jw,NV];rfl
  |cons y ys=>
   cases c with
   |nil=>rfl
   |cons z c=>
    show(x+y)*z+ev c (OI xs ys)=(x*z+ev c xs)+(y*z+ev c ys);rw[m,Int.add_mul];exact x4 _ _ _ _
def PM(k:Int):List Int→List Int
 |[]=>[]
 |x::xs=>(k*x)::PM k xs
theorem nM(k:Int):∀(xs:List Int)(c:List Nat),ev c (PM k xs)=k*ev c xs:=by
 intro xs
 induction xs with
 |nil=>intro c;show ev c []=_;rw[Jw,gq]
 |cons x xs m=>
  intro c;cases c with
  |nil=>exact(gq k).symm
  |cons z c=>
   show k*x*z+ev c (PM k xs)=k*(x*z+ev c xs);rw[m,Int.mul_add,Int.mul_assoc]
def BV.add(a b:BV):BV:=⟨a.k+b.k,OI a.cs b.cs⟩
def BV.mul(k:Int)(a:BV):BV:=⟨k*a.k,PM k a.cs⟩
theorem NB(c:List Nat)(a b:BV):(a.add b).den c=a.den c+b.den c:=by
 show a.k+b.k+ev c (OI a.cs b.cs)=(a.k+ev c a.cs)+(b.k+ev c b.cs);rw[uL];exact x4 _ _ _ _
theorem NF(c:List Nat)(k:Int)(a:BV):(a.mul k).den c=k*a.den c:=by
 show k*a.k+ev c (PM k a.cs)=k*(a.k+ev c a.cs);rw[nM,Int.mul_add]
def Ks:Nat→List Int
 |0=>[1]
 |i+1=>0::Ks i
theorem d0:∀(i:Nat)(c:List Nat),ev c (Ks i)=RT c i:=by
 intro i
 induction i with
 |zero=>intro c;cases c with
  |nil=>rfl
  |cons z c=>show 1*(z:Int)+ev c []=z;rw[Jw,Int.one_mul,NV]
 |succ i m=>intro c;cases c with
  |nil=>rfl
  |cons z c=>show 0*(z:Int)+ev c (Ks i)=RT c i;rw[m,Int.zero_mul,Jg]
def NE.lin:NE→BV
 |.v i=>⟨0,Ks i⟩
 |.n k=>⟨k,[]⟩
 |.a x y=>x.lin.add y.lin
 |.m k x=>x.lin.mul k
theorem LU(c:List Nat)(e:NE):e.lin.den c=(e.den c:Int):=by
 induction e with
 |v i=>show 0+ev c (Ks i)=_;rw[d0,Jg];rfl
 |n k=>show(k:Int)+ev c []=k;rw[Jw,NV]
 |a x y h1 h2=>exact(NB c _ _).trans (by rw[h1,h2];rfl)
 |m k x h=>exact(NF c _ _).trans (by rw[h];rfl)
def IE.lin:IE→BV
 |.c x=>x.lin
 |.n k=>⟨k,[]⟩
 |.a x y=>x.lin.add y.lin
 |.s x y=>x.lin.add (y.lin.mul (-1))
 |.g x=>x.lin.mul (-1)
theorem NQ(c:List Nat)(e:IE):e.lin.den c=e.den c:=by
 induction e with
 |c x=>exact LU c x
 |n k=>show(k:Int)+ev c []=k;rw[Jw,NV]
 |a x y h1 m=>exact(NB c _ _).trans (by rw[h1,m];rfl)
 |s x y h1 m=>exact(NB c _ _).trans (by rw[NF,h1,m];show _=IE.den c x-IE.den c y;omega)
 |g x h=>exact(NF c _ _).trans (by rw[h];show _=-IE.den c x;omega)
def df(k:Int)(x y:BV):BV:=(⟨-k,[]⟩:BV).add (y.add (x.mul (-1)))
theorem Jr(c:List Nat)(k:Int)(x y:BV):(df k x y).den c=y.den c-x.den c-k:=by
 show BV.den c (BV.add _ _)=_;rw[NB,NB,NF];have:BV.den c ⟨-k,[]⟩=-k:=by show -k+ev c []=-k;rw[Jw,NV]
 rw[this];omega
abbrev Br:=List (List BV)
def OW(c:List Nat)(l:List BV):Prop:=∀x∈l,0≤x.den c
def EB(c:List Nat)(b:Br):Prop:=∃l∈b,OW c l
def prod(a b:Br):Br:=a.flatMap fun x=>b.map fun y=>x++y
theorem EB.prod{c:List Nat}{a b:Br}(x:EB c a)(y:EB c b):EB c (prod a b):=by
 obtain⟨l,hl,s⟩:=x;obtain⟨m,hm,t⟩:=y;exact⟨l++m,List.mem_flatMap.mpr ⟨l,hl,BD.mpr ⟨m,hm,rfl⟩⟩,fun z n=>(B9.mp n).elim (s z) (t z)⟩
theorem EB.one{c:List Nat}{x:BV}(h:0≤x.den c):EB c [[x]]:=⟨[x],Aq.mpr rfl,fun z m=>(Aq.mp m)▸h⟩
theorem EB.l{c:List Nat}{a b:Br}(x:EB c a):EB c (a++b):=x.elim fun l h=>⟨l,Jh _ h.1,h.2⟩
theorem EB.r{c:List Nat}{a b:Br}(x:EB c b):EB c (a++b):=x.elim fun l h=>⟨l,Ed _ h.1,h.2⟩
def br(x y:BV)(s:Bool):Nat→Br
 |0=>if s then[[df 0 x y]]else[[df 1 y x]]
 |1=>if s then[[df 1 x y]]else[[df 0 y x]]
 |_=>if s then prod [[df 0 x y]] [[df 0 y x]]else[[df 1 x y]]++[[df 1 y x]]
def FE.br:FE→Bool→Br
 |.l x y,s=>Internal.br x.lin y.lin s 0
 |.t x y,s=>Internal.br x.lin y.lin s 1
 |.e x y,s=>Internal.br x.lin y.lin s 2
 |.L x y,s=>Internal.br x.lin y.lin s 0
 |.T x y,s=>Internal.br x.lin y.lin s 1
 |.E x y,s=>Internal.br x.lin y.lin s 2
 |.o p,s=>p.br (!s)
 |.d p q,true=>prod (p.br true) (q.br true)
 |.d p q,false=>p.br false++q.br false
 |.r p q,true=>p.br true++q.br true
 |.r p q,false=>prod (p.br false) (q.br false)
 |.i p q,true=>p.br false++q.br true
 |.i p q,false=>prod (p.br true) (q.br false)
 |.w p q,true=>prod (p.br true) (q.br true)++prod (p.br false) (q.br false)
 |.w p q,false=>prod (p.br true) (q.br false)++prod (p.br false) (q.br true)
 |.f,true=>[]
 |.f,false=>[[]]
theorem cC{c:List Nat}{x y:BV}:(x.den c≤y.den c→EB c (br x y true 0))∧(¬x.den c≤y.den c→EB c (br x y false 0)):=
 ⟨fun h=>.one (by rw[Jr];omega),fun h=>.one (by rw[Jr];omega)⟩
theorem Ys{c:List Nat}{x y:BV}:(x.den c<y.den c→EB c (br x y true 1))∧(¬x.den c<y.den c→EB c (br x y false 1)):=
 ⟨fun h=>.one (by rw[Jr];omega),fun h=>.one (by rw[Jr];omega)⟩
theorem dS{c:List Nat}{x y:BV}:(x.den c=y.den c→EB c (br x y true 2))∧(¬x.den c=y.den c→EB c (br x y false 2)):=
 ⟨fun h=>.prod (.one (by rw[Jr];omega)) (.one (by rw[Jr];omega)),fun h=>by
  rcases Int.lt_or_gt_of_ne h with h|h
  ·exact .l (.one (by rw[Jr];omega))
  ·exact .r (.one (by rw[Jr];omega))⟩
theorem FE.br_ok(c:List Nat)(p:FE):(p.den c→EB c (p.br true))∧(¬p.den c→EB c (p.br false)):=by
 induction p with
 |l x y=>have:=@cC c x.lin y.lin;rw[LU,LU,gr]at this;exact this
 |t x y=>have:=@Ys c x.lin y.lin;rw[LU,LU,Int.ofNat_lt]at this;exact this
 |e x y=>have:=@dS c x.lin y.lin;rw[LU,LU,Int.ofNat_inj]at this;exact this
 |L x y=>have:=@cC c x.lin y.lin;rw[NQ,NQ]at this;exact this
 |T x y=>have:=@Ys c x.lin y.lin;rw[NQ,NQ]at this;exact this
 |E x y=>have:=@dS c x.lin y.lin;rw[NQ,NQ]at this;exact this
 |o p h=>exact⟨h.2,fun n=>h.1 (Classical.not_not.mp n)⟩
 |d p q h k=>exact⟨fun x=>.prod (h.1 x.1) (k.1 x.2),fun n=>(Classical.not_and_iff_not_or_not.mp n).elim (fun x=>.l (h.2 x)) fun x=>.r (k.2 x)⟩
 |r p q h k=>exact⟨fun x=>x.elim (fun x=>.l (h.1 x)) fun x=>.r (k.1 x),fun n=>.prod (h.2 fun x=>n (.inl x)) (k.2 fun x=>n (.inr x))⟩
 |i p q h k=>exact⟨fun x=>(gt (p.den c)).elim (fun y=>.r (k.1 (x y))) fun y=>.l (h.2 y),fun n=>.prod (h.1 (TC fun m=>n fun a=>(m a).elim)) (k.2 fun m=>n fun _=>m)⟩
 |w p q h k=>exact⟨fun x=>(gt (p.den c)).elim (fun y=>.l (.prod (h.1 y) (k.1 (x.1 y)))) fun y=>.r (.prod (h.2 y) (k.2 fun z=>y (x.2 z))),
   fun n=>(gt (p.den c)).elim (fun y=>.l (.prod (h.1 y) (k.2 fun z=>n ⟨fun _=>z,fun _=>y⟩))) fun y=>.r (.prod (h.2 y) (k.1 (TC fun m=>n ⟨fun a=>(y a).elim,fun a=>(m a).elim⟩)))⟩
 |f=>exact⟨fun h=>h.elim,fun _=>⟨[],Aq.mpr rfl,fun _ h=>nomatch h⟩⟩
def Fq(l:BV):Int:=match l.cs with|[]=>0|a::_=>a
def Yz(p q:BV):BV:=(p.mul (-(Fq q))).add (q.mul (Fq p))
def ZU(l:BV):BV:=⟨l.k,l.cs.tail⟩
def dT(l:List BV):List BV:=
 let z:=(l.filter fun x=>Fq x==0);let p:=(l.filter fun x=>decide (0<Fq x));let n:=(l.filter fun x=>decide (Fq x<0))
 (z++p.flatMap fun x=>n.map fun y=>Yz x y).map ZU
def bad:Nat→List BV→Bool
 |0,l=>l.any fun x=>decide (x.k<0)
 |n+1,l=>bad n (dT l)
theorem fF{x:Nat}{c:List Nat}{l:BV}(h:Fq l=0):(ZU l).den c=l.den (x::c):=by
 obtain⟨k,cs⟩:=l;cases cs with
 |nil=>show k+ev c []=k+0;rw[Jw]
 |cons a m=>
  have h:a=0:=h;subst h;show k+ev c m=k+(0*(x:Int)+ev c m);rw[Int.zero_mul,Jg]
theorem s8(a b:BV):Fq (a.add b)=Fq a+Fq b:=by
 obtain⟨k,cs⟩:=a;obtain⟨j,ds⟩:=b;cases cs with
 |nil=>exact(Jg _).symm
 |cons x xs=>cases ds with
  |nil=>exact(NV _).symm
  |cons y ys=>rfl
theorem bF(k:Int)(a:BV):Fq (a.mul k)=k*Fq a:=by
 obtain⟨j,cs⟩:=a;cases cs with
 |nil=>exact(gq _).symm
 |cons x xs=>rfl
theorem Zag{x:Nat}{c:List Nat}{l:List BV}(s:OW (x::c) l):OW c (dT l):=by
 intro y hy;obtain⟨z,hz,rfl⟩:=BD.mp hy;rcases B9.mp hz with h|h
 ·obtain⟨h1,h2⟩:=Dd.mp h;rw[fF (x:=x) (beq_iff_eq.mp h2)];exact s z h1
 ·obtain⟨p,hp,h⟩:=List.mem_flatMap.mp h;obtain⟨q,hq,rfl⟩:=BD.mp h;obtain⟨p1,m⟩:=Dd.mp hp;obtain⟨q1,n⟩:=Dd.mp hq;have m:=of_decide_eq_true m;have n:=of_decide_eq_true n;have e:Fq (Yz p q)=0:=by
   show Fq (BV.add _ _)=0;rw[s8,bF,bF,Int.neg_mul,Int.mul_comm (Fq p)];omega
  rw[fF (x:=x) e];show 0≤BV.den _ (BV.add _ _);rw[NB,NF,NF];exact Int.add_nonneg (Int.mul_nonneg (by omega) (s p p1)) (Int.mul_nonneg (by omega) (s q q1))
theorem wM{n:Nat}:∀{c:List Nat}{l:List BV},c.length=n→OW c l→bad n l=true→False:=by
 induction n with
 |zero=>
  intro c l m s h;obtain⟨x,hx,h⟩:=List.any_eq_true.mp h;have h:=of_decide_eq_true h;have t:=s x hx;obtain rfl:=Lh m;have:x.den []=x.k+0:=rfl;omega
 |succ n ih=>
  intro c l m s h;cases c with
  |nil=>cases m
  |cons x c=>exact ih (XT m) (Zag s) h
def units:Nat→Nat→List BV
 |0,_=>[]
 |n+1,i=>⟨0,Ks i⟩::units n (i+1)
theorem xH(c:List Nat):∀n i,OW c (units n i):=by
 intro n
 induction n with
 |zero=>intro i x h;cases h
 |succ n m=>
  intro i x h;rcases A7.mp h with rfl|h
  ·show 0≤0+ev c (Ks i);rw[d0];omega
  ·exact m _ x h
def FE.ok(p:FE)(n:Nat):Bool:=(p.br false).all fun l=>bad n (units n 0++l)
theorem FL(c:List Nat)(p:FE)(h:p.ok c.length=true):p.den c:=TC fun n=>by
 obtain⟨l,hl,s⟩:=(p.br_ok c).2 n;exact wM rfl (fun x m=>(B9.mp m).elim (xH c _ _ x) (s x)) (Fe.mp h l hl)
abbrev NE.p:NE:=.v 0
abbrev NE.q:NE:=.v 1
abbrev NE.r:NE:=.v 2
abbrev NE.s:NE:=.v 3
abbrev NE.t:NE:=.v 4
abbrev NE.u:NE:=.v 5
abbrev NE.z:NE:=.v 6
theorem CX{p:FE}(h:p.ok 0=true):p.den []:=FL _ p h
theorem A5{p:FE}(h:p.ok 1=true){a:Nat}:p.den [a]:=FL _ p h
theorem Am{p:FE}(h:p.ok 2=true){a b:Nat}:p.den [a,b]:=FL _ p h
theorem BS{p:FE}(h:p.ok 3=true){a b c:Nat}:p.den [a,b,c]:=FL _ p h
theorem Cb{p:FE}(h:p.ok 4=true){a b c d:Nat}:p.den [a,b,c,d]:=FL _ p h
theorem Hq{p:FE}(h:p.ok 5=true){a b c d e:Nat}:p.den [a,b,c,d,e]:=FL _ p h
theorem cT{p:FE}(h:p.ok 6=true){a b c d e f:Nat}:p.den [a,b,c,d,e,f]:=FL _ p h
theorem zU{p:FE}(h:p.ok 7=true){a b c d e f g:Nat}:p.den [a,b,c,d,e,f,g]:=FL _ p h
theorem KO{c:List Nat}{F:FE}(P:FE)(h:(FE.i P F).ok c.length=true)(x:P.den c):F.den c:=FL c _ h x
theorem Zbq{c:List Nat}{F:FE}(P Q:FE)(h:(FE.i P (.i Q F)).ok c.length=true)(x:P.den c)(y:Q.den c):F.den c:=FL c _ h x y
theorem bn(a b:Nat):(b≤a∧a-b+b=a)∨(a≤b∧a-b=0):=(NW b a).elim (fun h=>.inl ⟨h,Nat.sub_add_cancel h⟩) fun h=>.inr ⟨h,Nat.sub_eq_zero_of_le h⟩
theorem ub(a b:Nat):(a≤b∧min a b=a)∨(b≤a∧min a b=b):=(NW a b).elim (fun h=>.inl ⟨h,TD h⟩) fun h=>.inr ⟨h,TE h⟩
theorem s6(a b:Nat):(a≤b∧max a b=b)∨(b≤a∧max a b=a):=(NW a b).elim (fun h=>.inl ⟨h,TF h⟩) fun h=>.inr ⟨h,TG h⟩
theorem vq(a:Nat):2*(a / 2)≤a∧a≤2*(a / 2)+1:=⟨Nat.mul_div_le a 2,Nat.le_of_lt_succ (Nat.lt_mul_div_succ a (show 0<2 by decide))⟩
theorem RR(a:Int):(0≤a∧(a.natAbs:Int)=a)∨(a≤0∧(a.natAbs:Int)=-a):=(Int.le_total 0 a).elim (fun h=>.inl ⟨h,Int.natAbs_of_nonneg h⟩) fun h=>.inr ⟨h,Int.ofNat_natAbs_of_nonpos h⟩
theorem PH(a:Int):(0≤a∧(a.toNat:Int)=a)∨(a≤0∧a.toNat=0):=(Int.le_total 0 a).elim (fun h=>.inl ⟨h,XU h⟩) fun h=>.inr ⟨h,Int.toNat_of_nonpos h⟩
theorem Ry{a:Int}(h:a.natAbs<1000000):-1000000<a∧a<1000000:=by omega
theorem qK{a b:Int}(h0:a.natAbs<(1000000:Nat))(n:b.natAbs<(1000000:Nat)):((((-9223372036854775808:Int)≤a∧a<(9223372036854775808:Int))∧(-9223372036854775808:Int)≤b∧b<(9223372036854775808:Int))∧(-9223372036854775808:Int)≤EH (b-a) (0:Int)∧EH (b-a) (0:Int)<(9223372036854775808:Int))∧(EH (b-a) (0:Int)=(0:Int)∨(-9223372036854775808:Int)≤b∧b<(9223372036854775808:Int)):=
 have f {a:Int} (h:a.natAbs<1000000):(-9223372036854775808:Int)≤a∧a<(9223372036854775808:Int):=⟨XV (by decide) (gu (Ry h).1),Int.lt_of_lt_of_le (Ry h).2 (by decide)⟩;have m:EH (b-a) (0:Int)<(9223372036854775808:Int):=Int.max_lt.mpr ⟨gx (Int.sub_lt_sub (Ry n).2 (Ry h0).1) (by decide),by decide⟩
 ⟨⟨⟨f h0,f n⟩,XV (by decide) (Int.le_max_right ..),m⟩,.inr (f n)⟩
abbrev IE.j(x:IE):IE:=.a x (.n 1)
abbrev NE.j(x:NE):NE:=.a x (.n 1)
theorem O(p:FE)(n:Nat)(h:p.ok n=true:=by kernel_rfl):p.ok n=true:=h
abbrev sb(x y z:NE):FE:=.r (.d (.l y x) (.e (.a z y) x)) (.d (.l x y) (.e z (.n 0)))
abbrev mn(x y z:NE):FE:=.r (.d (.l x y) (.e z x)) (.d (.l y x) (.e z y))
abbrev mx(x y z:NE):FE:=.r (.d (.l x y) (.e z y)) (.d (.l y x) (.e z x))
theorem W9{c:List Nat}(x y z:NE)(e:z.den c=x.den c-y.den c):(Internal.sb x y z).den c:=by
 show _∧_=_∨_∧_=_;show _∧z.den c+_=_∨_∧z.den c=_;rw[e];exact bn _ _
theorem gL{c:List Nat}(x y z:NE)(e:z.den c=min (x.den c) (y.den c)):(Internal.mn x y z).den c:=by
 show _∧z.den c=_∨_∧z.den c=_;rw[e];exact ub _ _
theorem gI{c:List Nat}(x y z:NE)(e:z.den c=max (x.den c) (y.den c)):(Internal.mx x y z).den c:=by
 show _∧z.den c=_∨_∧z.den c=_;rw[e];exact s6 _ _
theorem oS{c:List Nat}{F:FE}(x y z:NE)(h:(FE.i (Internal.sb x y z) F).ok c.length=true:=by kernel_rfl)(e:z.den c=x.den c-y.den c:=by exact rfl):F.den c:=FL c _ h (W9 x y z e)
theorem oI{c:List Nat}{F:FE}(x y z:NE)(h:(FE.i (Internal.mn x y z) F).ok c.length=true:=by kernel_rfl)(e:z.den c=min (x.den c) (y.den c):=by exact rfl):F.den c:=FL c _ h (gL x y z e)
theorem oA{c:List Nat}{F:FE}(x y z:NE)(h:(FE.i (Internal.mx x y z) F).ok c.length=true:=by kernel_rfl)(e:z.den c=max (x.den c) (y.den c):=by exact rfl):F.den c:=FL c _ h (gI x y z e)
theorem oM{c:List Nat}{F:FE}(x y z u:NE)(h:(FE.i (Internal.mn x y z) (.i (Internal.mx x y u) F)).ok c.length=true:=by kernel_rfl)(e:z.den c=min (x.den c) (y.den c):=by exact rfl)(f:u.den c=max (x.den c) (y.den c):=by exact rfl):F.den c:=FL c _ h (gL x y z e) (gI x y u f)
theorem oT{c:List Nat}{F:FE}(x y z a b d:NE)(h:(FE.i (Internal.sb x y z) (.i (Internal.sb a b d) F)).ok c.length=true:=by kernel_rfl)(e:z.den c=x.den c-y.den c:=by exact rfl)(f:d.den c=a.den c-b.den c:=by exact rfl):F.den c:=FL c _ h (W9 x y z e) (W9 a b d f)
theorem oD{c:List Nat}{F:FE}(x z:NE)(h:(FE.i (.d (.l (.m 2 z) x) (.l x (.a (.m 2 z) (.n 1)))) F).ok c.length=true:=by kernel_rfl)(e:z.den c=x.den c / 2:=by exact rfl):F.den c:=FL c _ h (by show 2*z.den c≤_∧_≤2*z.den c+1;rw[e];exact vq _)
def o0:=O (.L (.n 0) (.c .p)) 1
def o1:=O (.L (.n 0) (.n 0)) 0
def o2:=O (.T (.n 0) (.n 1000000)) 0
def o4:=O (.i (.l .p (.n 60)) (.i (.t .q .p) (.T (.c .q) (.n 1000000)))) 2
def o5:=O (.i (.l (.a .p (.j .q)) (.n 14)) (.l (.a .p .q) (.n 14))) 2
theorem o6{a b c:Nat}:FE.den [a,b,c,b-1] (.i (.t .p (.a .q .r)) (.t .p (.a .s (.j .r)))):=oS .q (.n 1) .s
def o7:=O (.i (.l .p (.n 1000)) (.i (.t .q .p) (.T (.c .q) (.n 1000000)))) 2
theorem o8{a b c:Nat}:FE.den [a,b,c,b-1] (.i (.t .p (.a .q .r)) (.i (.l .r .p) (.t .s .q))):=oS .q (.n 1) .s
def o9:=O (.i (.l (.a .p .q) (.n 14)) (.i (.l .r (.n 8)) (.l (.a .p .r) (.n 40)))) 3
def Ou:=O (.i (.l (.a .p (.j .q)) (.n 14)) (.l .p (.n 40))) 2
theorem SL{a:Nat}:FE.den [a,(↑a:Int).natAbs] (.i (.t .p (.n 1000000)) (.t .q (.n 1000000))):=KO (.r (.d (.L (.n 0) (.c .p)) (.E (.c .q) (.c .p))) (.d (.L (.c .p) (.n 0)) (.E (.c .q) (.g (.c .p))))) (by kernel_rfl) (RR ((↑a:Int)))
def QZ:=O (.i (.l .p (.n 1000)) (.l (.a (.n 1) .p) (.n 100000))) 1
def Ra:=O (.i (.o (.e .p .q)) (.o (.E (.c .p) (.c .q)))) 2
def R0:=O (.i (.l (.a .p .q) (.n 14)) (.l .p (.n 40))) 2
def UG:=O (.i (.l (.a .p .q) (.n 100000)) (.i (.e .r .p) (.i (.e .s .q) (.l (.a .r .s) (.n 16777216))))) 4
def VS:=O (.i (.t .p .q) (.T (.c .p) (.c .q))) 2
theorem YZ{a b:Nat}:De a b=De a b:=rfl
theorem UQ{a:Nat}:a≤a:=A9 a
def U7:=O (.i (.t .p (.j .q)) (.i (.o (.e .p .q)) (.t .p .q))) 2
def Wc:=O (.i (.l .p .q) (.i (.l (.a .r .q) (.n 14)) (.l (.a .r .p) (.n 14)))) 3
def Ue:=O (.i (.l (.a .p (.j .q)) (.n 14)) (.l (.a (.j .p) .q) (.n 14))) 2
def VZ:=O (.i (.d (.l (.a .p (.j .q)) (.n 14)) (.l (.a .r (.j .q)) (.n 14))) (.d (.l (.a .p .q) (.n 14)) (.l (.a .r .q) (.n 14)))) 3
def eB:=O (.i (.t (.a .p (.m 2 (.j .q))) .r) (.t (.a (.j .p) (.m 2 .q)) .r)) 3
theorem Yc:FE.den [Int.natAbs (0:Int)] (.t .p (.n 1000000)):=KO (.r (.d (.L (.n 0) (.n 0)) (.E (.c .p) (.n 0))) (.d (.L (.n 0) (.n 0)) (.E (.c .p) (.g (.n 0))))) (by kernel_rfl) (RR ((0:Int)))
def fS:=O (.l .p (.j (.j .p))) 1
theorem pE{a b:Nat}(m:a≤b):a≤b:=m
theorem Zr{a b c:Nat}:FE.den [a,b,c,a-1] (.i (.e (.a .p .q) .r) (.i (.t .q .r) (.t .s .p))):=oS .p (.n 1) .s
theorem cG{a b c:Nat}:FE.den [a,b,c,a-1] (.i (.e (.a .p .q) .r) (.i (.t .q .r) (.e (.a .s (.j .q)) .r))):=oS .p (.n 1) .s
def dO:=O (.i (.t .p .q) (.i (.l .r .p) (.i (.o (.e .r .p)) (.t .r .p)))) 3
def YN:=O (.i (.L (.c .p) (.c .q)) (.l .p .q)) 2
def bG:=O (.o (.T (.c .p) (.n 0))) 1
def fN:=O (.i (.e (.n 0) .p) (.i (.e .p (.j .q)) .f)) 2
def bR:=O (.w (.E (.c .p) (.c .q)) (.e .p .q)) 2
def ZS:=O (.w (.o (.E (.c .p) (.c .q))) (.o (.e .p .q))) 2
def Y0:=O (.i (.o (.e .p .q)) (.i (.o (.t .p .q)) (.l (.j .q) .p))) 2
def Ym:=O (.i (.e .p .q) (.E (.c .p) (.c .q))) 2
def ZO:=O (.i (.l .p (.a (.j .q) .r)) (.l .p (.a .q (.j .r)))) 3
def ej:=O (.i (.o (.t .p .q)) (.i (.t .p (.j .q)) (.e .p .q))) 2
def Y2:=O (.L (.n 0) (.n 1)) 0
def cZ:=O (.T (.n 1) (.n 1000000)) 0
theorem ju{a b c:Nat}:FE.den [a,b,c,b-1] (.i (.t .p (.a .q .r)) (.i (.t .r .p) (.t .s .q))):=oS .q (.n 1) .s
def eZ:=O (.i (.t .p .q) (.d (.L (.n 0) (.c .p)) (.T (.c .p) (.c .q)))) 2
def bv:=O (.i (.t .p .q) (.i (.e .q .r) (.t .p .r))) 3
def da:=O (.w (.T (.n 1) (.c .p)) (.t (.n 1) .p)) 1
def cv:=O (.i (.t (.n 0) .p) (.T (.n 0) (.c .p))) 1
def dy:=O (.t (.n 0) (.n 1021)) 0
def aO:=O (.i (.t .p (.n 1021)) (.T (.c .p) (.n 1021))) 1
def dg:=O (.i (.l .p .q) (.i (.l .r .s) (.l (.a .p .r) (.a .q .s)))) 4
theorem Zn{a b c:Nat}:FE.den [a,b,c,De b c,EH b c] (.i (.e .p .t) (.l .s .p)):=oM .q .r .s .t
theorem dW{a b:Nat}:FE.den [a,b,De a b,EH a b] (.i (.o (.e .p .q)) (.t .r .s)):=oM .p .q .r .s
def f6:=O (.i (.t .p (.n 2)) (.T (.c .p) (.n 1000000))) 1
def dj:=O (.o (.d (.L (.n 0) (.c .p)) (.T (.c .p) (.c .p)))) 1
theorem fR{a:Nat}:FE.den [a,(↑a:Int).natAbs] (.i (.l .p (.n 60)) (.t .q (.n 1000))):=KO (.r (.d (.L (.n 0) (.c .p)) (.E (.c .q) (.c .p))) (.d (.L (.c .p) (.n 0)) (.E (.c .q) (.g (.c .p))))) (by kernel_rfl) (RR ((↑a:Int)))
def fT:=O (.o (.d (.L (.n 0) (.g (.n 1))) (.T (.g (.n 1)) (.c .p)))) 1
def bS:=O (.i (.l (.a .p .q) (.n 20)) (.l .p (.n 100000))) 2
def dn:=O (.i (.o (.t .p .q)) (.l .q .p)) 2
def Z2:=O (.i (.e .p (.a (.a .q .r) .s)) (.e (.j .p) (.a (.a .q (.j .r)) .s))) 4
def Zm:=O (.i (.t .p .p) .f) 1
def aY:=O (.i (.l .p (.n 40)) (.i (.l .q .r) (.i (.l .r (.n 14)) (.i (.l .s (.a .q .p)) (.l .s (.n 900)))))) 4
theorem Zv{a b:Nat}:FE.den [a,b,De a b,EH a b] (.r (.d (.e .r .p) (.e .s .q)) (.d (.e .r .q) (.e .s .p))):=oM .p .q .r .s
def Yl:=O (.i (.e .p (.j .q)) (.i (.t .r .p) (.i (.o (.e .r .q)) (.t .r .q)))) 3
def aM:=O (.i (.l (.a .p .q) (.n 14)) (.l .p (.n 900))) 2
def Zs:=O (.l (.n 800) (.n 1000)) 0
def ff:=O (.i (.l (.a .p (.j .q)) (.n 14)) (.t .p (.n 14))) 2
def uf:=O (.i (.l .p .q) (.i (.t (.a .r (.m 2 .q)) .s) (.t (.a .r (.m 2 .p)) .s))) 4
def rP:=O (.i (.l .p .q) (.i (.t (.a .r (.m 16 .q)) .s) (.t (.a .r (.m 16 .p)) .s))) 4
def yg:=O (.i (.t (.a .p (.m 2 .q)) .r) (.t .p .r)) 3
def rH:=O (.i (.t (.n 0) .p) (.i (.t (.a .q (.m 16 .p)) .r) (.t (.j .q) .r))) 3
def mY:=O (.i (.t (.a .p (.m 16 (.j .q))) .r) (.t (.a (.a .p (.n 3)) (.m 16 .q)) .r)) 3
def mX:=O (.i (.t .p .q) (.T (.n 0) (.s (.c .q) (.c .p)))) 2
theorem mo{b:Nat}{a:Int}:a+(↑(b+(1:Nat)):Int)=a+(↑b:Int)+(1:Int):=(gp a b 1).symm
def o76:=O (.E (.s (.c .p) (.c (.j .q))) (.s (.s (.c .p) (.c .q)) (.n 1))) 2
def pr:=O (.i (.o (.t .p .q)) (.L (.s (.c .q) (.c .p)) (.n 0))) 2
def mH:=O (.E (.c (.j .p)) (.j (.c .p))) 1
theorem vH{a b:Int}(m:a.natAbs<(1000000:Nat))(n:b.natAbs<(1000000:Nat)):((((-9223372036854775808:Int)≤a∧a<(9223372036854775808:Int))∧(-9223372036854775808:Int)≤b∧b<(9223372036854775808:Int))∧(-9223372036854775808:Int)≤EH (b-a) (0:Int)∧EH (b-a) (0:Int)<(9223372036854775808:Int))∧(EH (b-a) (0:Int)=(0:Int)∨(-9223372036854775808:Int)≤b∧b<(9223372036854775808:Int)):=qK m n
theorem o81{a:Int}:a+(↑(0:Nat):Int)=a:=NV a
def oj:=O (.E (.s (.c .p) (.c (.n 0))) (.c .p)) 1
theorem xj{a:Nat}:FE.den [a,((↑a:Int)-(0:Int)).toNat] (.e .q .p):=KO (.r (.d (.L (.n 0) (.s (.c .p) (.n 0))) (.E (.c .q) (.s (.c .p) (.n 0)))) (.d (.L (.s (.c .p) (.n 0)) (.n 0)) (.e .q (.n 0)))) (by kernel_rfl) (PH ((↑a:Int)-(0:Int)))
theorem pn{a b:Nat}:FE.den [a,b,((↑a:Int)-(↑b:Int)).toNat,a-b] (.e .r .s):=Zbq (.r (.d (.L (.n 0) (.s (.c .p) (.c .q))) (.E (.c .r) (.s (.c .p) (.c .q)))) (.d (.L (.s (.c .p) (.c .q)) (.n 0)) (.e .r (.n 0)))) (.r (.d (.l .q .p) (.e (.a .s .q) .p)) (.d (.l .p .q) (.e .s (.n 0)))) (by kernel_rfl) (PH ((↑a:Int)-(↑b:Int))) (bn (a) (b))
def zH:=O (.i (.l (.a .p .q) (.n 100000)) (.i (.e .r .p) (.l .r (.n 16777216)))) 3
def o86:=O (.i (.l (.a .p .q) (.n 100000)) (.i (.e .r .p) (.i (.e .s .q) (.l (.a .r .s) (.n 16777217))))) 4
def yX:=O (.i (.t .p (.n 1000000)) (.T (.c .p) (.n 9223372036854775808))) 1
def xw:=O (.i (.T (.c .p) (.c .q)) (.t .p .q)) 2
def uh:=O (.i (.t .p .q) (.i (.e .r .q) (.T (.c .p) (.c .r)))) 3
def qA:=O (.i (.l (.a .p (.j .q)) .r) (.l (.a (.j .p) .q) .r)) 3
def xo:=O (.i (.t .p .q) (.i (.l .q .p) (.l .r .p))) 3
theorem xf{a b:Nat}:FE.den [a,b,b-a,b-(a+1)] (.i (.t .p .q) (.e .r (.j .s))):=oT .q .p .r .q (.j .p) .s
def w7:=O (.i (.l (.a .p (.j .q)) .r) (.i (.o (.t .p .s)) (.d (.l .s .p) (.t .p .r)))) 4
theorem j9{a b:Nat}:FE.den [a,b,b-(a+1)] (.i (.o (.t .p .q)) (.e .r (.n 0))):=oS .q (.j .p) .r
theorem lP{a b:Nat}:FE.den [a,b,b-a] (.i (.o (.t .p .q)) (.e .r (.n 0))):=oS .q .p .r
theorem pQ{a b c:Nat}:FE.den [a,b,c,De c a] (.i (.l .p .q) (.l .s (.j .q))):=oI .r .p .s
theorem xm{a:Nat}:FE.den [a,((↑a:Int)-(0:Int)).toNat] (.E (.c .q) (.c .p)):=KO (.r (.d (.L (.n 0) (.s (.c .p) (.n 0))) (.E (.c .q) (.s (.c .p) (.n 0)))) (.d (.L (.s (.c .p) (.n 0)) (.n 0)) (.e .q (.n 0)))) (by kernel_rfl) (PH ((↑a:Int)-(0:Int)))
theorem vT{a:Nat}:(0:Int)+(↑a:Int)*(1:Int)=(↑a:Int):=(Jg _).trans (Int.mul_one _)
def qm:=O (.i (.t (.a .p (.m 16 (.j .q))) .r) (.t (.a (.j .p) (.m 16 .q)) .r)) 3
theorem zw{a b c:Nat}:FE.den [a,b,c,(c+a) / 2] (.i (.l .p .q) (.i (.t .r .p) (.t .s .q))):=oD (.a .r .p) .s
theorem tR{a b c:Nat}:FE.den [a,b,c,(b+a) / 2] (.i (.l .p (.a .q (.j .r))) (.l .p (.a (.j .s) .r))):=oD (.a .q .p) .s
theorem xR{a b:Nat}:FE.den [a,b,(a+b) / 2] (.i (.t .p .q) (.l (.j .r) .q)):=oD (.a .p .q) .r
theorem lq{a b c:Nat}:FE.den [a,b,c,(b+c) / 2] (.i (.t .p (.j .s)) (.i (.o (.e .p .s)) (.t .p .s))):=oD (.a .q .r) .s
theorem qR{a b c:Nat}:FE.den [a,b,c,(b+a) / 2] (.i (.l .p (.a .q (.j .r))) (.l .s (.a .q .r))):=oD (.a .q .p) .s
theorem pc{a b:Nat}:FE.den [a,b,(a+b) / 2] (.i (.t .p .q) (.l .p .r)):=oD (.a .p .q) .r
theorem sF{a b c:Nat}:FE.den [a,b,c,(a+b) / 2] (.i (.l .s .r) (.i (.o (.e .r .s)) (.t .s .r))):=oD (.a .p .q) .s
def qE:=O (.i (.l .p .q) (.i (.o (.t .p .q)) (.e .p .q))) 2
def Za8:=O (.l .p (.a (.n 0) .p)) 1
def vM:=O (.i (.t (.a .p (.j .q)) .r) (.t .p .r)) 3
def kc:=O (.t .p (.a .p (.j .q))) 2
def pY:=O (.i (.t .p .q) (.i (.l .r .s) (.i (.t .s .r) .f))) 4
def mD:=O (.i (.l .p .q) (.i (.o (.e .q .p)) (.t .p .q))) 2
theorem Zar{a b:Nat}:FE.den [a,b,a-b] (.i (.e .r (.n 0)) (.i (.l .q .p) (.e .q .p))):=oS .p .q .r
theorem tM{a b c:Nat}:FE.den [a,b,c,a-b] (.i (.e .s (.j .r)) (.t .q .p)):=oS .p .q .s
theorem om{a b c d e:Nat}:FE.den [a,b,c,d,e,De c e] (.i (.t (.j .p) .q) (.i (.t .r .p) (.i (.l .s .u) (.t (.j .s) .q)))):=oI .r .t .u
theorem wo{a b c:Nat}:FE.den [a,b,c,De b c] (.i (.l .p .s) (.l .p (.j .s))):=oI .q .r .s
theorem mT{a b c:Nat}:FE.den [a,b,c,De b c] (.i (.l .p .s) (.l (.j .p) (.j .s))):=oI .q .r .s
theorem wm{a b c:Nat}:FE.den [a,b,c,a-(b+1),a-b] (.i (.e .t (.j .r)) (.e .s .r)):=oT .p (.j .q) .s .p .q .t
theorem ko{a b:Nat}:FE.den [a,b,a-1] (.i (.l .p (.j .q)) (.l .r .q)):=oS .p (.n 1) .r
def zb:=O (.i (.l .p .q) (.i (.e .p (.j .r)) (.t (.n 0) .q))) 3
def kA:=O (.i (.e .p (.j .q)) (.t (.n 0) .p)) 2
def j4:=O (.i (.e .p .q) (.i (.t .r .q) (.i (.t (.j .r) .p) (.i (.t .s (.j .t)) (.i (.t .t .s) .f))))) 5
def xC:=O (.i (.t .p (.n 64)) (.i (.l .q .p) (.l .q (.n 63)))) 2
theorem qa{a b:Int}(m:a≤b∧a≠b):a<b:=Int.lt_iff_le_and_ne.mpr m
theorem je{a b c d:Nat}:FE.den [a,b,c,d,De c b] (.i (.l (.a .p .q) (.n 1000000)) (.i (.e (.a .p .t) .s) (.l .s (.n 1000000)))):=oI .r .q .t
def jh:=O (.l .p (.a .p .q)) 2
def kh:=O (.i (.t .p .q) (.i (.l .q (.n 1000)) (.T (.c .p) (.n 1000000)))) 2
def xS:=O (.i (.t .p .q) (.i (.o (.e .r .p)) (.o (.E (.c .r) (.c .p))))) 3
theorem rZ{a b:Nat}:FE.den [a,b,a-b] (.i (.o (.e .p .q)) (.i (.o (.t .p .q)) (.o (.e .r (.n 0))))):=oS .p .q .r
theorem vU{a b c d:Nat}:FE.den [a,b,c,d,EH a b,De a b] (.i (.e .u .r) (.i (.e .t .s) (.i (.o (.e .p .q)) (.t .r .s)))):=oM .p .q .u .t
theorem Zav{a b c d e f:Nat}:FE.den [a,b,c,d,e,f,EH d e] (.i (.t .p .q) (.i (.t .r .q) (.i (.l .s .p) (.i (.l .t .r) (.i (.e .z .u) (.t .u .q)))))):=oA .s .t .z
def pH:=O (.i (.t .p .q) (.o (.E (.c .p) (.c .q)))) 2
def yM:=O (.i (.l .p (.n 1000)) (.i (.t .q .r) (.i (.t .r .p) (.T (.c .q) (.n 1000000))))) 3
def ny:=O (.i (.l .p (.n 1000)) (.i (.l .q (.n 1000)) (.l (.a .p .q) (.n 100000)))) 2
def uo:=O (.i (.o (.t .p .q)) (.i (.o (.e .p .q)) (.t .q .p))) 2
def nX:=O (.i (.t .p .q) (.i (.t .q .p) (.e .q .p))) 2
def tC:=O (.i (.t .p .q) (.w (.E (.c .r) (.c .p)) (.e .r .p))) 3
def oQ:=O (.T (.c .p) (.j (.c .p))) 1
def vO:=O (.i (.l .p (.n 1000)) (.i (.e .q .p) (.i (.t .r .q) (.T (.c .r) (.n 1000000))))) 3
def jv:=O (.i (.l (.a .p .q) (.n 1000)) (.l .q (.n 1000000))) 2
theorem zN{a b:Nat}:FE.den [a,b,b+1-b] (.i (.t .p .r) (.e .p (.n 0))):=oS (.j .q) .q .r
def mN:=O (.i (.e .p (.j .q)) (.t .q .p)) 2
def qF:=O (.i (.e .p (.j .q)) (.l .p (.j .q))) 2
theorem tE{a b:Int}(m:a<b)(n:(0:Int)≤a):a.toNat<b.toNat:=(Int.toNat_lt_toNat (Int.lt_of_le_of_lt n m)).mpr m
def uO:=O (.o (.T (.c .p) (.n 0))) 1
theorem w9{a b:Nat}:FE.den [a,b,De a b,EH a b] (.i (.o (.e .p .q)) (.o (.e .r .s))):=oM .p .q .r .s
def oN:=O (.i (.l .p (.n 500)) (.i (.l .q (.n 40)) (.l (.a .p .q) (.n 100000)))) 2
def tK:=O (.i (.l .p (.n 40)) (.i (.l .q (.n 40)) (.l (.a .p .q) (.n 100000)))) 2
def pi:=O (.i (.l .p (.n 800)) (.l .p (.n 800))) 1
def rS:=O (.i (.l .p (.n 800)) (.l .p (.n 801))) 1
def zj:=O (.i (.l .p (.a .q .r)) (.l .p (.a .q (.j .r)))) 3
def wP:=O (.i (.e .p .q) (.o (.T (.c .p) (.c .q)))) 2
theorem jd{a b c d:Nat}:FE.den [a,b,c,d,De d a] (.i (.l .p (.n 2)) (.i (.l .q (.n 40)) (.i (.l .r (.a .q .t)) (.l .r (.n 42))))):=oI .s .p .t
theorem oW{a b:Nat}:FE.den [a,b,a-b] (.i (.o (.t .p .q)) (.i (.e .r (.n 0)) (.e .p .q))):=oS .p .q .r
def vV:=O (.i (.o (.e .p .q)) (.o (.E (.c .p) (.c .q)))) 2
theorem xE{a b c:Nat}:FE.den [a,b,c,De b c] (.i (.t .p .s) (.t .p .r)):=oI .q .r .s
theorem yi{a b c:Nat}:FE.den [a,b,c,De b c] (.i (.t .p .s) (.t .p .q)):=oI .q .r .s
def xh:=O (.i (.e .p (.j .q)) (.o (.E (.c .p) (.n 0)))) 2
def Zad:=O (.i (.e .p (.a .q (.n 0))) (.o (.T (.c .q) (.c .p)))) 2
def yv:=O (.i (.e .p (.a .q (.j .r))) (.T (.c .q) (.c .p))) 3
def qQ:=O (.e (.a (.n 0) .p) .p) 1
def jP:=O (.i (.l .p (.n 1000)) (.i (.l .q (.n 5)) (.l (.a .p .q) (.n 16777216)))) 2
def yK:=O (.e (.a (.n 2) (.m 2 .p)) (.m 2 (.j .p))) 1
def sO:=O (.i (.l .p (.n 1000)) (.l (.m 2 .p) (.n 1000000))) 1
def vj:=O (.i (.l (.a .p .q) (.n 900)) (.l .p (.n 100000))) 2
def rC:=O (.i (.l (.a .p .q) (.n 900)) (.l .p (.n 99998))) 2
def lX:=O (.i (.l .p (.n 800)) (.l .p (.n 100000))) 1
def wA:=O (.i (.e (.a .p (.j .q)) .r) (.t .p .r)) 3
theorem sy{a b c:Nat}:FE.den [a,b,c,a-1] (.i (.e (.a .p (.j .q)) .r) (.t .s .r)):=oS .p (.n 1) .s
theorem tW{a b c:Nat}:FE.den [a,b,c,a-1] (.i (.l (.n 1) .p) (.i (.e (.a .p (.j .q)) .r) (.d (.t .p .r) (.d (.t .s .r) (.o (.e .p .s)))))):=oS .p (.n 1) .s
theorem vW{a:Nat}:FE.den [a,a-1] (.o (.t .p .q)):=oS .p (.n 1) .q
def kG:=O (.i (.e (.a .p (.j .q)) .r) (.e (.a (.j .p) .q) .r)) 3
theorem sV{a:Nat}:FE.den [a,a-1] (.i (.l (.n 2) .p) (.e (.a (.n 1) .q) .p)):=oS .p (.n 1) .q
def rt:=O (.i (.o (.e .p .q)) (.i (.o (.t .p .q)) (.t .q .p))) 2
theorem vN{a b c d:Nat}{e f:Int}(h0:a<b)(h1:c<b)(h2:b=d)(n:e<f)(m:f<e):a<c:=(Int.lt_irrefl _ (gx n m)).elim
theorem yC{a b c d:Nat}{e f:Int}(n:a<b)(h1:b=c)(h2:d<b)(m:e<f):e≠f:=Int.ne_of_lt m
theorem zP{a b c d:Nat}{e f:Int}(n:a<b)(h1:b=c)(h2:d<b)(m:e<f):f≠e:=(Int.ne_of_lt m).symm
def vC:=O (.i (.l .p (.j .q)) (.l (.a .p .r) (.a .q (.j .r)))) 3
theorem pF{b:Nat}{a:Int}(m:(0:Int)≤a)(n:a<(↑b:Int)):a.toNat<b:=(Int.toNat_lt m).mpr n
theorem rf{a:Int}(m:(0:Int)≤a):a=(↑a.toNat:Int):=(XU m).symm
def xZ:=O (.i (.t (.n 0) .p) (.o (.E (.c .p) (.n 0)))) 1
def yr:=O (.i (.l (.j .p) .q) (.L (.c (.j .p)) (.c .q))) 2
def sC:=O (.L (.n 0) (.s (.c (.j .p)) (.n 1))) 1
def sk:=O (.i (.l .p (.n 1000)) (.i (.l (.j .q) .p) (.T (.s (.c (.j .q)) (.n 1)) (.n 1000000)))) 2
theorem nQ{a:Nat}:FE.den [a,((↑(a+(1:Nat)):Int)-(1:Int)).toNat] (.e .q .p):=KO (.r (.d (.L (.n 0) (.s (.c (.a .p (.n 1))) (.n 1))) (.E (.c .q) (.s (.c (.a .p (.n 1))) (.n 1)))) (.d (.L (.s (.c (.a .p (.n 1))) (.n 1)) (.n 0)) (.e .q (.n 0)))) (by kernel_rfl) (PH ((↑(a+(1:Nat)):Int)-(1:Int)))
def xT:=O (.i (.l (.j .p) .q) (.t .p .q)) 2
def oP:=O (.i (.o (.l (.j .p) .q)) (.o (.L (.c (.j .p)) (.c .q)))) 2
theorem ri{a:Nat}:FE.den [a,(↑a:Int).natAbs] (.i (.t .p (.n 1021)) (.t .q (.n 100000))):=KO (.r (.d (.L (.n 0) (.c .p)) (.E (.c .q) (.c .p))) (.d (.L (.c .p) (.n 0)) (.E (.c .q) (.g (.c .p))))) (by kernel_rfl) (RR ((↑a:Int)))
theorem tF{a b:Nat}:FE.den [a,b,De b a,EH b a] (.i (.o (.e .p .s)) (.e .r .p)):=oM .q .p .r .s
theorem uz{a b:Nat}:FE.den [a,b,De b a,EH b a] (.i (.e .p .s) (.e .q .r)):=oM .q .p .r .s
theorem vm{a b:Nat}:FE.den [a,b,EH a b] (.i (.o (.e .p .r)) (.i (.o (.e .q .r)) (.e .p .q))):=oA .p .q .r
theorem w6{a b c d:Nat}:FE.den [a,b,c,d,De c d,EH c d] (.i (.l .p .q) (.i (.e .p .u) (.l .t .q))):=oM .r .s .t .u
theorem rY{a b c:Nat}:FE.den [a,b,c,De c a] (.i (.t .p .q) (.t .s .q)):=oI .r .p .s
theorem yA{a b c:Nat}:FE.den [a,b,c,De b c,EH b c] (.i (.o (.e .p .t)) (.i (.e .p .t) (.e .s .p))):=oM .q .r .s .t
def j5:=O (.e .p .p) 1
def pN:=O (.i (.t .p .q) (.t (.n 0) .q)) 2
theorem oi{a b c:Nat}:FE.den [a,b,c,De b c,EH b c] (.i (.l .p (.n 0)) (.i (.e .p .t) (.e .s (.n 0)))):=oM .q .r .s .t
def u8:=O (.i (.l .p (.n 0)) (.e .p (.n 0))) 1
def rD:=O (.i (.t .p .q) (.i (.l .r .s) (.t (.a .p .r) (.a .q .s)))) 4
def re:=O (.i (.l .p .q) (.i (.t .r .s) (.t (.a .p .r) (.a .q .s)))) 4
def uI:=O (.l (.n 0) .p) 1
def ji:=O (.i (.l .p (.n 60)) (.t .p (.n 1000000))) 1
def uB:=O (.i (.l .p (.n 900)) (.l .p (.n 100000))) 1
theorem tu{a b c:Nat}:FE.den [a,b,c,EH b c] (.i (.e .p .s) (.E (.c .p) (.c .s))):=oA .q .r .s
theorem uX{a b c:Nat}:FE.den [a,b,c,EH b c] (.i (.o (.e .p .s)) (.o (.E (.c .p) (.c .s)))):=oA .q .r .s
def wT:=O (.i (.l .p (.n 100)) (.l (.a (.n 1) .p) (.n 100000))) 1
def wX:=O (.l (.n 1) (.n 2)) 0
def yq:=O (.l (.n 2) (.n 2)) 0
def Zak:=O (.i (.e .p .q) (.i (.l .q (.n 2)) (.l (.a (.n 1) .p) (.n 100000)))) 2
def v4:=O (.i (.t .p .q) (.i (.e .r .s) (.i (.l .r .p) (.i (.e .q .t) (.t .s .t))))) 5
def kL:=O (.i (.t .p (.n 3)) (.i (.l .q .p) (.i (.e .r .q) (.l .r (.n 2))))) 3
def pK:=O (.i (.l .p (.n 100)) (.i (.t .q (.n 3)) (.i (.l .r .q) (.i (.e .s .r) (.l (.a .p .s) (.n 100000)))))) 4
def sA:=O (.i (.l .p (.n 100)) (.i (.t .q (.n 3)) (.i (.l .r .q) (.i (.e .s .r) (.l (.a .p .s) (.n 900)))))) 4
def qu:=O (.i (.t .p (.n 3)) (.i (.l .q .p) (.i (.e .r .q) (.l .r (.n 6))))) 3
def jx:=O (.w (.e .p .q) (.E (.c .p) (.c .q))) 2
def Za7:=O (.i (.t .p (.n 3)) (.i (.l .q .p) (.i (.e .r .q) (.l .r (.n 8))))) 3
def rz:=O (.i (.t .p (.n 3)) (.i (.l .q .p) (.i (.e .r .q) (.l .r (.n 799))))) 3
def zr:=O (.i (.t (.n 0) .p) (.d (.L (.n 0) (.n 0)) (.T (.n 0) (.c .p)))) 1
def wz:=O (.i (.e .p (.n 0)) (.E (.c .p) (.n 0))) 1
def tG:=O (.i (.o (.e .p (.n 0))) (.o (.E (.c .p) (.n 0)))) 1
def Zan:=O (.i (.e .p (.n 2)) (.E (.c .p) (.n 2))) 1
def jS:=O (.T (.g (.n 1)) (.n 0)) 0
def sh:=O (.L (.n 1) (.j (.c .p))) 1
theorem yF{a:Nat}:FE.den [a,((-1:Int)+((↑a:Int)+(1:Int))).toNat] (.e .q .p):=KO (.r (.d (.L (.n 0) (.a (.g (.n 1)) (.a (.c .p) (.n 1)))) (.E (.c .q) (.a (.g (.n 1)) (.a (.c .p) (.n 1))))) (.d (.L (.a (.g (.n 1)) (.a (.c .p) (.n 1))) (.n 0)) (.e .q (.n 0)))) (by kernel_rfl) (PH ((-1:Int)+((↑a:Int)+(1:Int))))
def mv:=O (.i (.o (.e .p (.n 2))) (.o (.E (.c .p) (.n 2)))) 1
def xN:=O (.i (.e .p (.n 3)) (.E (.c .p) (.n 3))) 1
def yk:=O (.i (.o (.e .p (.n 3))) (.o (.E (.c .p) (.n 3)))) 1
def vL:=O (.i (.e .p (.n 1)) (.E (.c .p) (.n 1))) 1
def my:=O (.i (.o (.e .p (.n 1))) (.o (.E (.c .p) (.n 1)))) 1
def Zaf:=O (.E (.a (.n 3) (.c .p)) (.c (.a (.n 3) .p))) 1
def xA:=O (.i (.t .p (.n 3)) (.t (.a (.n 3) .p) (.n 1000000))) 1
theorem vI{a b:Nat}:FE.den [a,b,5-b,4-b] (.i (.t .p (.n 3)) (.i (.t .q (.a (.n 3) .p)) (.e .r (.j .s)))):=oT (.n 5) .q .r (.n 4) .q .s
theorem yy{a b:Nat}:FE.den [a,b,5-(a+1),5-a] (.i (.e .s (.j .q)) (.e .r .q)):=oT (.n 5) (.j .p) .r (.n 5) .p .s
def wJ:=O (.E (.a (.n 1) (.c .p)) (.c (.a (.n 1) .p))) 1
def qJ:=O (.i (.t .p (.n 3)) (.t (.a (.n 1) .p) (.n 1000000))) 1
theorem wU{a b:Nat}:FE.den [a,b,8-b,7-b] (.i (.t .p (.n 3)) (.i (.t .q (.a (.n 1) .p)) (.e .r (.j .s)))):=oT (.n 8) .q .r (.n 7) .q .s
theorem rd{a b:Nat}:FE.den [a,b,8-(a+1),8-a] (.i (.e .s (.j .q)) (.e .r .q)):=oT (.n 8) (.j .p) .r (.n 8) .p .s
theorem qY{a b:Nat}:FE.den [a,b,8-b] (.i (.t .p (.n 3)) (.i (.l .q (.a (.n 1) .p)) (.l (.n 5) .r))):=oS (.n 8) .q .r
theorem nS{a:Nat}:FE.den [a,11-a,10-a] (.i (.t .p (.n 3)) (.e .q (.j .r))):=oT (.n 11) .p .q (.n 10) .p .r
theorem wv{a b:Nat}:FE.den [a,b,11-(a+1),11-a] (.i (.e .s (.j .q)) (.e .r .q)):=oT (.n 11) (.j .p) .r (.n 11) .p .s
theorem lE{a:Nat}:FE.den [a,De 50 a] (.l .q (.n 1000000)):=oI (.n 50) .p .q
theorem rQ{a:Nat}:FE.den [a,De 50 a] (.l .q (.n 50)):=oI (.n 50) .p .q
def xy:=O (.i (.t .p (.n 0)) (.e (.a .q .r) (.a .s .t))) 5
def tg:=O (.e (.a (.a .p .q) .r) (.a (.a .p .r) .q)) 3
def uQ:=O (.i (.e (.a .p .q) (.a .r .s)) (.i (.e .t .u) (.e (.a (.a .p .t) .q) (.a (.a .r .u) .s)))) 6
def kM:=O (.i (.e (.a .p .q) (.a .r .s)) (.i (.e (.a .t .u) (.a .p .z)) (.e (.a .t (.a .q .u)) (.a .r (.a .s .z))))) 7
def qT:=O (.i (.t .p (.n 0)) (.l .q .r)) 3
def y7:=O (.l .p (.a .q .p)) 2
def kS:=O (.i (.l .p .q) (.l .p (.a .q .r))) 3
def wj:=O (.e (.a (.a .p .q) (.a .r .s)) (.a (.a .p .r) (.a .q .s))) 4
def lQ:=O (.i (.l .p .q) (.i (.l .r (.n 1)) (.i (.l .s (.a .r .p)) (.l .s (.j .q))))) 4
def uJ:=O (.i (.l .p .q) (.i (.l .q (.m 2 .r)) (.i (.l .r (.n 14)) (.l .p (.n 28))))) 3
def jL:=O (.i (.e (.a .p .q) .r) (.l .q .r)) 3
def zX:=O (.i (.l (.a .p .q) (.a .r (.m 28 .s))) (.i (.l .s .r) (.i (.l .r (.n 14)) (.l (.a .p .q) (.n 406))))) 4
def tZ:=O (.i (.l (.a .p .q) (.n 406)) (.l .p (.n 500))) 2
def j0:=O (.i (.l (.a .p .q) (.n 406)) (.l .q (.n 500))) 2
def ow:=O (.i (.e .p .q) (.i (.t .r .s) (.i (.t .s .q) (.t .r .p)))) 4
def yn:=O (.i (.l (.a .p .q) (.a .r (.m 28 .s))) (.i (.l .t (.n 100)) (.i (.l .r (.n 14)) (.i (.l .s .r) (.l (.a (.a .p .t) .r) (.n 800)))))) 5
def Zap:=O (.i (.o (.t .p .q)) (.i (.o (.e .p .q)) (.l (.j .q) .p))) 2
def ro:=O (.i (.t .p .q) (.i (.o (.t .r .q)) (.o (.e .r .p)))) 3
def y9:=O (.i (.e .p (.a (.a .q .r) .s)) (.e (.j .p) (.a (.a (.j .q) .r) .s))) 4
def wR:=O (.i (.e (.a .p (.a .q .r)) (.a .s (.a (.a .q .r) (.n 0)))) (.i (.l .s (.m 2 .t)) (.l .p (.m 2 .t)))) 5
def xJ:=O (.i (.e (.j .p) (.a .q (.n 0))) (.i (.e (.a .q .r) .s) (.e (.a .p (.j .r)) .s))) 4
def vb:=O (.i (.e (.a .p (.a .q .r)) (.a .s (.a (.a .q .r) (.n 0)))) (.i (.l .s .t) (.l .p .t))) 5
def nJ:=O (.i (.l .p .q) (.i (.e (.a .r (.n 0)) (.a (.n 0) (.a .s .t))) (.i (.l .r .p) (.l (.a .s .t) .q)))) 5
def uA:=O (.i (.l .p (.n 2)) (.i (.l .q (.m 2 .r)) (.i (.e .s (.n 0)) (.i (.e .t (.a .q .u)) (.i (.l .u .p) (.l (.a .t .s) (.m 2 (.j .r)))))))) 6
def pA:=O (.i (.e (.a .p .q) .r) (.e (.a (.j .p) .q) (.j .r))) 3
def qH:=O (.i (.e .p (.a (.a .q .r) .s)) (.i (.e .s .t) (.e (.j .p) (.a (.a .q .r) (.j .t))))) 5
def pC:=O (.i (.l .p (.n 14)) (.i (.l .q .p) (.i (.l .r .p) (.l (.a .q .r) (.n 1000))))) 3
def tJ:=O (.i (.t .p .q) (.o (.e .q .p))) 2
def sS:=O (.i (.l .p (.n 28)) (.i (.l .q (.n 28)) (.l (.a .p .q) (.n 1000)))) 2
def tq:=O (.i (.t .p .q) (.i (.e .r .p) (.t .r .q))) 3
def oY:=O (.i (.e .p .q) (.t .p (.j .q))) 2
def sT:=O (.i (.l .p (.n 40)) (.i (.l .q (.a .r .p)) (.i (.l .r .s) (.i (.l .s (.n 14)) (.l .q (.n 100)))))) 4
def wW:=O (.i (.l .p (.a .q .r)) (.l (.j .p) (.a .q (.j .r)))) 3
def vD:=O (.i (.l (.a .p .q) (.a .r (.m 28 .s))) (.i (.l .t (.n 28)) (.l (.a .p (.a .q .t)) (.a .r (.m 28 (.j .s)))))) 5
def rV:=O (.i (.l .p (.a .q .r)) (.l (.j .p) (.a (.j .q) (.j .r)))) 3
def nr:=O (.i (.l (.j (.a .p .q)) (.a .r (.m 28 .s))) (.i (.l .s .r) (.i (.l .r (.n 14)) (.l .p (.n 900))))) 4
def yb:=O (.i (.l (.j (.a .p .q)) (.a .r (.m 28 .s))) (.l (.a (.j .p) .q) (.a .r (.m 28 .s)))) 4
def yG:=O (.i (.l .p (.a .q .r)) (.i (.l .r (.n 40)) (.i (.l .s (.n 14)) (.i (.l (.j .q) .s) (.l .p (.n 900)))))) 4
def xX:=O (.i (.l (.j (.a .p .q)) (.a .r (.m 28 .s))) (.i (.l .t (.n 28)) (.l (.a .p (.a .q .t)) (.a .r (.m 28 (.j .s)))))) 5
def jR:=O (.i (.l .p (.a .q .r)) (.l (.j .p) (.a (.j .q) .r))) 3
theorem Zao{a b c d:Nat}:FE.den [a,b,c,d,c-(b+1),c-b] (.i (.l .p (.n 28)) (.i (.l (.j .q) .r) (.l (.a (.m 29 .t) (.a .s .p)) (.a (.m 29 .u) .s)))):=oT .r (.j .q) .t .r .q .u
def zQ:=O (.i (.l (.a .p (.j .q)) (.a .r (.m 28 .s))) (.l (.j (.a .p .q)) (.a .r (.m 28 .s)))) 4
theorem wK{a b c:Nat}:FE.den [a,b,c,a-b] (.e (.j (.a (.m 29 .s) .r)) (.a (.m 29 .s) (.j .r))):=oS .p .q .s
def tX:=O (.i (.l (.a .p .q) (.a .r (.m 28 .s))) (.l (.j (.a .p .q)) (.a (.j .r) (.m 28 .s)))) 4
def lY:=O (.i (.t .p .q) (.t .p (.j .q))) 2
def uM:=O (.i (.d (.t .p .q) (.t .r .q)) (.d (.t .p (.j .q)) (.t .r (.j .q)))) 3
def vJ:=O (.t .p (.j .p)) 1
def uG:=O (.i (.l .p .q) (.i (.d (.l (.a .r .q) (.n 14)) (.l (.a .s .q) (.n 14))) (.d (.l (.a .r .p) (.n 14)) (.l (.a .s .p) (.n 14))))) 4
def j7:=O (.i (.e (.j .p) (.j .q)) (.e .p .q)) 2
def mM:=O (.i (.l (.a .p (.j .q)) (.n 40)) (.l (.a .p .q) (.n 40))) 2
def lL:=O (.i (.e (.j .p) (.j .q)) (.i (.l (.a .r (.j .q)) (.n 40)) (.l (.a .r .p) (.n 40)))) 3
def w8:=O (.i (.l (.a .p .q) (.n 14)) (.l .p (.n 60))) 2
def mJ:=O (.i (.l (.a .p .q) (.n 14)) (.l .p (.n 100))) 2
theorem lG{a b:Nat}:FE.den [a,b,De b a] (.i (.l .p (.n 8)) (.l .r (.n 8))):=oI .q .p .r
def Zac:=O (.i (.l (.a .p .q) (.n 14)) (.l .p (.n 999))) 2
def pw:=O (.i (.l (.a .p .q) (.a .r (.m 28 .s))) (.l (.a .p .q) (.a (.j .r) (.m 28 .s)))) 4
def rL:=O (.i (.l (.a .p (.j .q)) (.n 14)) (.i (.l .r (.a .s .p)) (.i (.l .s .t) (.i (.l .t (.n 14)) (.l .r (.n 100)))))) 5
def uK:=O (.i (.l (.a .p .q) (.n 14)) (.l .p (.n 20))) 2
def w5:=O (.i (.l (.a .p .q) (.n 14)) (.l .p (.n 1000))) 2
def nR:=O (.i (.l (.a (.j .p) .q) (.n 14)) (.l (.a .p .q) (.n 14))) 2
theorem Sl{C:Nat→Prop}{n:Nat}(h:n<2)(a:C 0)(b:C 1):C n:=by
 cases n with
 |zero=>exact a
 |succ n=>cases n with
  |zero=>exact b
  |succ n=>exact absurd (XW (XW h)) (Li n)
theorem sv{C:Nat→Prop}{n:Nat}(h:n<3)(a:C 0)(b:C 1)(c:C 2):C n:=by
 cases n with
 |zero=>exact a
 |succ n=>exact Sl (C:=fun n=>C (n+1)) (XW h) b c
theorem Q4{n:Nat}(h:n≤1000000):(n:Int)<2 ^ 63:=Int.lt_of_le_of_lt (gr.mpr h) (by decide+kernel)
theorem dM{i:Int}(h:i<1000000):i<2 ^ 63:=gx h (by decide+kernel)
theorem qd{i:Int}(h:0≤i):-2 ^ 63≤i:=XV (by decide+kernel) h
@[inline]def aT(t:Lean.Unhygienic (Lean.TSyntax `Lean.Parser.Tactic.tacticSeq)):Lean.Syntax:=t.run.raw
@[inline]def aR:Lean.Syntax:=aT `(tacticSeq|rfl)
@[inline]def aI:Lean.Syntax:=aT `(tacticSeq|intro m;rfl)
@[inline]def aD:Lean.Syntax:=aT `(tacticSeq|decide)
@[inline]def aE:Lean.Syntax:=aT `(tacticSeq|exact rfl)
@[inline]def aW:Lean.Syntax:=aT `(tacticSeq|intro m;with_unfolding_all rfl)
local macro_rules (kind:=Lean.Parser.Tactic.rwSeq)
  |s=>do
    let q:=s[2][1]
    if q.getNumArgs==0||s[1][0].getNumArgs>0||s[3].getNumArgs>0 then Lean.Macro.throwUnsupported
    let m:=Lean.Syntax.node .none;let z:=m Lean.nullKind;let a:=Lean.mkAtom;let p:=fun x=>m (.str `Lean.Parser.Term x)
    return z ((q.getSepArgs.map fun x=>m `Lean.Parser.Tactic.refine #[a "",p "app" #[Lean.mkIdent (if x[0].isNone then `Internal.er else `Internal.oH),z #[p "hole" #[a "_"],p "app" #[x[1],z #[p "ellipsis" #[a ""]]],p "syntheticHole" #[a "",a "_"]]]]).push (s.setArg 2 (s[2].setArg 1 (z #[]))))
@[inline]def aK:Lean.Syntax:=aT `(tacticSeq|kernel_rfl)
@[inline]def aB(a:Lean.Syntax):Lean.MacroM Lean.Syntax:=return .node .none `Lean.Parser.Term.byTactic #[.atom .none "by",a]
local macro_rules (kind:=Lean.Parser.Term.tuple)
  |s=>if s[1].isNone then aB aR else Lean.Macro.throwUnsupported
local macro_rules (kind:=Lean.Parser.Term.omission)
  |s=>aB aD
local macro_rules (kind:=«term∅»)
  |s=>aB aK
local macro_rules (kind:=term!_)
  |s=>aB (aE.setArg 0 (aE[0].setArg 0 (aE[0][0].setArg 0 (aE[0][0][0].setArg 1 s[1]))))
local macro_rules (kind:=Lean.Parser.Tactic.show)
  |s=>return let m:=Lean.Syntax.node .none;let a:=Lean.mkAtom;m `Lean.Parser.Tactic.refine #[a "refine",m `Lean.Parser.Term.typeAscription #[a "(",m `Lean.Parser.Term.syntheticHole #[a "?",m `Lean.Parser.Term.hole #[a "_"]],a ":",m `null #[s[1]],a ")"]]
def OP(x:AD×A3):Prop:=
 ∀(s₀ s₁:AQ)(mg mb:Str→Option Value)(p:Ht)(loose:List Str)(fa a:AB)(vs:List Value)(is:List Int),s₁.heap=x.2→TopRead p loose mg mb s₁.heap→(hd.heap_1 x.1.params).In s₁.heap→mg "law"=some (.ref fa)→s₁.gens=#[]→s₁.heap.IsList a vs.toArray→Ji vs is→is.length≤63→
  AR (Ae PySem.Challenge.rw_pq0016_01.row.prog x.1) callerA (call (.ref fa) [.ref a])
   (fun v s'=>GoodWG PySem.Challenge.rw_pq0016_01.row.claim (classAt s₀.heap) (ExcName.means s₀.heap) [ofPy (PyData.list (is.map PyData.int))] s₁ (.ok (.ret v)) s')
   (fun e s'=>GoodWG PySem.Challenge.rw_pq0016_01.row.claim (classAt s₀.heap) (ExcName.means s₀.heap) [ofPy (PyData.list (is.map PyData.int))] s₁ (.error e) s') s₁
def wx:AD×A3:=@Zd7 _ ⟨({draws:=fun _ _=>0,params:={strHash:=fun _=>0,shareClass:=fun _=>0,mergeTok:=id,idOf:=fun _=>0,idOfShared:=fun _ _=>0,followText:=fun _=>false,idOfImm:=fun _=>0}},Bk)⟩ fun x=>¬OP x
@[irreducible] noncomputable def w:AD:=wx.1
@[irreducible] noncomputable def hb:A3:=wx.2
theorem jk(h:OP (w,hb))(x:AD×A3):OP x:=TC fun n=>Zd8 (p:=fun x=>¬OP x) ⟨x,n⟩ (by unfold w hb at h;exact h)
def zE{α:Type}(P:α→Prop)(d:α):α:=@Zd7 α ⟨d⟩ fun t=>¬P t
theorem zF{α:Type}{P:α→Prop}{d:α}(h:P (zE P d))(t:α):P t:=TC fun n=>@Zd8 α (fun t=>¬P t) ⟨t,n⟩ h
set_option genInjectivity true
section
inductive AV where
 |none
 |bool (b:Bool)
 |int (i:Int)
 |str (s:Str)
 |ref (a:AB)
 |tup (xs:List AV)
 |fix (v:Value)
mutual
inductive VR(h:A3):AV→Value→Prop
 |none:VR h .none .none
 |bool (b:Bool):VR h (.bool b) (.bool b)
 |int (i:Int) (t:Tok):VR h (.int i) (.int i t)
 |str (s:Str) (t:Tok):VR h (.str s) (.str s t)
 |ref (a:AB):VR h (.ref a) (.ref a)
 |fix (v:Value):VR h (.fix v) v
 |tup {a:AB} {xs:List AV} {items:Array Value} {n:Nat}:h.get? a=some {cls:=.type "tuple",data:=.seq items n}→VRs h xs items.toList→VR h (.tup xs) (.ref a)
inductive VRs(h:A3):List AV→List Value→Prop
 |nil:VRs h [] []
 |cons {x:AV} {v:Value} {xs:List AV} {vs:List Value}:VR h x v→VRs h xs vs→VRs h (x::xs) (v::vs)
end
theorem VR.mono{h h':A3}(k:∀a o items n,h.get? a=some o→o.cls=.type "tuple"→o.data=.seq items n→h'.get? a=some o){x:AV}{v:Value}(r:VR h x v):VR h' x v:=
 @VR.rec h (fun x v m=>VR h' x v) (fun xs vs m=>VRs h' xs vs) .none .bool .int .str .ref .fix (fun e m ih=>.tup (k _ _ _ _ e rfl rfl) ih) .nil (fun m m a b=>.cons a b) x v r
theorem VRs.ind{P:List AV→List Value→Prop}(n:P [] [])(c:∀{x v xs vs},VR h x v→VRs h xs vs→P xs vs→P (x::xs) (v::vs))(r:VRs h xs vs):P xs vs:=
 @VRs.rec h (fun m m m=>True) (fun xs vs m=>P xs vs) trivial (fun m=>trivial) (fun m m=>trivial) (fun m m=>trivial) (fun m=>trivial) (fun m=>trivial) (fun m m m=>trivial) n (fun r rs m ih=>c r rs ih) xs vs r
theorem VRs.mono{h h':A3}(k:∀a o items n,h.get? a=some o→o.cls=.type "tuple"→o.data=.seq items n→h'.get? a=some o){xs:List AV}{vs:List Value}(r:VRs h xs vs):VRs h' xs vs:=
 r.ind .nil fun a m b=>.cons (a.mono k) b
theorem VRs.length:∀{xs:List AV}{vs:List Value},VRs h xs vs→xs.length=vs.length
 :=fun r=>r.ind (P:=fun xs vs=>xs.length=vs.length) rfl fun n n m=>congrArg (· +1) m
theorem VRs.append:∀{xs:List AV}{vs:List Value}{ys:List AV}{m:List Value},VRs h xs vs→VRs h ys m→VRs h (xs++ys) (vs++m)
 :=fun r q=>r.ind (P:=fun xs vs=>VRs h (xs++_) (vs++_)) q fun a zz n=>.cons a n
theorem VRs.one{h:A3}{x:AV}{v:Value}(r:VR h x v):VRs h [x] [v]:=.cons r .nil
theorem VRs.get{i:Nat}{v:Value}(r:VRs h xs vs)(e:vs[i]? =some v):∃x,xs[i]? =some x∧VR h x v:=
 r.ind (P:=fun xs vs=>∀i v,vs[i]? =some v→∃x,xs[i]? =some x∧VR h x v) (fun m m e=>Au (List.getElem?_nil.symm.trans e)) (fun a m n i v e=>by
  cases i with
  |zero=>obtain rfl:=An e;exact⟨_,rfl,a⟩
  |succ i=>exact n i v e) i v e
theorem VRs.get'{i:Nat}{x:AV}(r:VRs h xs vs)(e:xs[i]? =some x):∃v,vs[i]? =some v∧VR h x v:=
 r.ind (P:=fun xs vs=>∀i x,xs[i]? =some x→∃v,vs[i]? =some v∧VR h x v) (fun m m e=>Au (List.getElem?_nil.symm.trans e)) (fun a m n i x e=>by
  cases i with
  |zero=>obtain rfl:=An e;exact⟨_,rfl,a⟩
  |succ i=>exact n i x e) i x e
theorem VRs.drop{h:A3}{n:Nat}{xs:List AV}{vs:List Value}(r:VRs h xs vs):VRs h (xs.drop n) (vs.drop n):=
 r.ind (P:=fun xs vs=>∀n,VRs h (xs.drop n) (vs.drop n)) (fun n=>by rw[List.drop_nil,List.drop_nil];exact .nil) (fun a b m n=>by
  cases n with
  |zero=>exact .cons a b
  |succ n=>exact m n) n
theorem VRs.take(r:VRs h xs vs):VRs h (xs.take n) (vs.take n):=
 r.ind (P:=fun xs vs=>∀n,VRs h (xs.take n) (vs.take n)) (fun n=>by rw[List.take_nil,List.take_nil];exact .nil) (fun a b m n=>by
  cases n with
  |zero=>exact .nil
  |succ n=>exact .cons a (m n)) n
theorem VRs.split:∀{vs:List Value},VRs h (xs++ys) vs→∃m n,vs=m++n∧VRs h xs m∧VRs h ys n:=by
 induction xs with
 |nil=>exact fun r=>⟨[],_,rfl,.nil,r⟩
 |cons x xs ih=>
  intro vs r;cases r with
  |cons a b=>exact Ec (ih b) fun m n e r1 r2=>⟨_::m,n,by rw[e];rfl,.cons a r1,r2⟩
theorem VRs.set{h:A3}{i:Nat}{xs:List AV}{vs:List Value}{x:AV}{v:Value}(r:VRs h xs vs)(q:VR h x v):VRs h (xs.set i x) (vs.set i v):=
 r.ind (P:=fun xs vs=>∀i,VRs h (xs.set i x) (vs.set i v)) (fun n=>.nil) (fun a b m i=>by
  cases i with
  |zero=>exact .cons q b
  |succ i=>exact .cons a (m i)) i
theorem VR.inv_int(r:VR h (.int i) v):∃t,v=.int i t:=by cases r;exact⟨_,rfl⟩
theorem VR.inv_str(r:VR h (.str i) v):∃t,v=.str i t:=by cases r;exact⟨_,rfl⟩
theorem Po(r:VR h (.bool b) v):v=.bool b:=by cases r;rfl
theorem VR.inv_ref(r:VR h (.ref a) v):v=.ref a:=by cases r;rfl
theorem XN(r:VR h .none v):v=.none:=by cases r;rfl
theorem VR.inv_fix(r:VR h (.fix u) v):v=u:=by cases r;rfl
inductive B5 where
 |int (i:Int)
 |str (s:Str)
 deriving DecidableEq
def B5.av:B5→AV
 |.int i=>.int i
 |.str s=>.str s
inductive AO where
 |list (xs:List AV)
 |dictI (es:List (Int×AV))
 |dictS (es:List (Str×AV))
 |dictT (es:List (List B5×AV))
 |inst (C dx:AB)
 |ns (n:Nat) (es:Str→Option AV)
 |setI (S:List Int)
 |frz (o:C0)
abbrev AA:=AB→Option AO
def upd(σ:AA)(a:AB)(x:AO):AA:=fun b=>if b=a then some x else σ b
@[simp]theorem Ao(σ:AA)(a:AB)(x:AO):upd σ a x a=some x:=if_pos rfl
theorem Av(σ:AA)(x:AO)(h:b≠a):upd σ a x b=σ b:=if_neg h
section
variable {h:A3} {P:List Value→Prop} {vs:List Value} {x y:AV} {a b:AB} {i j:Int}
theorem VRs.inv{xs:List AV}(r:VRs h (x::xs) vs):∃v m,vs=v::m∧VR h x v∧VRs h xs m:=by cases r with|cons a b=>exact⟨_,_,rfl,a,b⟩
theorem VRs.inv0(r:VRs h [] vs):vs=[]:=by cases r;rfl
@[elab_as_elim]theorem Sm(r:VRs h [x] vs)(k:∀v,VR h x v→P [v]):P vs:=Ec r.inv fun v m e a b=>by rw[e,b.inv0];exact k v a
@[elab_as_elim]theorem Ww(r:VRs h [x,y] vs)(k:∀v u,VR h x v→VR h y u→P [v,u]):P vs:=Ec r.inv fun v m e a b=>by rw[e];exact Sm (P:=fun l=>P (v::l)) b fun u r=>k v u a r
@[elab_as_elim]theorem Jf(r:VRs h [.ref a] vs)(k:P [.ref a]):P vs:=Sm r fun v r=>by rw[r.inv_ref];exact k
@[elab_as_elim]theorem Zci(r:VRs h [.int i] vs)(k:∀t,P [.int i t]):P vs:=Sm r fun v r=>AX r.inv_int fun t e=>by rw[e];exact k t
@[elab_as_elim]theorem Sn(r:VRs h [.ref a,x] vs)(k:∀v,VR h x v→P [.ref a,v]):P vs:=Ww r fun v u n m=>by rw[n.inv_ref];exact k u m
@[elab_as_elim]theorem Wx(r:VRs h [.ref a,x,y] vs)(k:∀v,VR h x v→∀u,VR h y u→P [.ref a,v,u]):P vs:=Ec r.inv fun v us e n b=>by rw[e,n.inv_ref];exact Ww (P:=fun l=>P (.ref a::l)) b fun v u m r3=>k v m u r3
@[elab_as_elim]theorem Zbo(r:VRs h [.int i,.int j] vs)(k:∀t u,P [.int i t,.int j u]):P vs:=Ww r fun v u r1 r2=>AX r1.inv_int fun t e=>AX r2.inv_int fun m n=>by rw[e,n];exact k t m
@[elab_as_elim]theorem Ja{P:Value→Prop}{v:Value}{xs:List AV}(r:VR h (.tup xs) v)(k:∀a items n,h.get? a=some {cls:=.type "tuple",data:=.seq items n}→VRs h xs items.toList→P (.ref a)):P v:=by
 cases r with
 |@tup a _ items n e m=>exact k a items n e m
@[elab_as_elim]theorem gO{xs:List AV}(r:VRs h [.tup xs] vs)(k:∀a items n,h.get? a=some {cls:=.type "tuple",data:=.seq items n}→VRs h xs items.toList→P [.ref a]):P vs:=Sm r fun v r=>Ja (P:=fun v=>P [v]) r k
end
end
set_option genInjectivity false
abbrev pg:Ht:=PySem.Challenge.rw_pq0016_01.row.prog
inductive Cn{K:Type}(h:A3):List (K×AV)→List (K×Value)→Prop
 |nil:Cn h [] []
 |cons {k:K} {x:AV} {v:Value} {xs vs}:VR h x v→Cn h xs vs→Cn h ((k,x)::xs) ((k,v)::vs)
inductive DS{K:Type}(h:A3):List (K×AV)→List (K×AB×Value)→Prop
 |nil:DS h [] []
 |cons {k:K} {a:AB} {x:AV} {v:Value} {xs vs}:VR h x v→DS h xs vs→DS h ((k,x)::xs) ((k,a,v)::vs)
def Bp(h h':A3):Prop:=∀a o items n,h.get? a=some o→o.cls=.type "tuple"→o.data=.seq items n→h'.get? a=some o
theorem Cn.mono{K:Type}{h h':A3}(k:Bp h h'):∀{xs:List (K×AV)}{vs},Cn h xs vs→Cn h' xs vs:=fun r=>by induction r with|nil=>exact .nil|cons a _ m=>exact .cons (a.mono k) m
theorem DS.mono{K:Type}{h h':A3}(k:Bp h h'):∀{xs:List (K×AV)}{vs},DS h xs vs→DS h' xs vs:=fun r=>by induction r with|nil=>exact .nil|cons a _ m=>exact .cons (a.mono k) m
def LB:B5→Value→Bool
 |.int i,v=>Value.isInt i v
 |.str s,v=>Value.isStrOf s v
theorem nO(h:LB k v=true):(∃i t,k=.int i∧v=.int i t)∨∃x t,k=.str x∧v=.str x t:=by
 cases k with
 |int i=>obtain⟨t,rfl⟩:=Pu h;exact .inl ⟨i,t,rfl,rfl⟩
 |str x=>obtain⟨t,rfl⟩:=Value.isStrOf_shape h;exact .inr ⟨x,t,rfl,rfl⟩
def eh(w:AD):B5→Int
 |.int i=>hashInt i
 |.str s=>hashStr w s
theorem sK{m:Ht}{w:AD}{A:Ab}{E:Value→AQ→Prop}{s:AQ}{i:Int}{t:Tok}{x:Str}{u:Tok}{Q:Bool→AQ→Prop}
  (q:Q false s):AR (Ae m w) A (eqBool (.int i t) (.str x u)) Q E s:=by
 unfold eqBool;rw[if_neg (by simp)];exact AE (EqMixed.eq_int_str (Q:=fun a s'=>AR (Ae m w) A (truthOfDropped a) Q E s') (Pv q))
theorem zO{m:Ht}{w:AD}{A:Ab}{E:Value→AQ→Prop}{s:AQ}{i:Int}{t:Tok}{x:Str}{u:Tok}{Q:Bool→AQ→Prop}
  (q:Q false s):AR (Ae m w) A (eqBool (.str x u) (.int i t)) Q E s:=by
 unfold eqBool;rw[if_neg (by simp)];exact AE (EqMixed.eq_str_int (Q:=fun a s'=>AR (Ae m w) A (truthOfDropped a) Q E s') (Pv q))
theorem JQ{C:B5→Value→Prop}{k:B5}{v:Value}(h:LB k v=true)(m:∀i t,C (.int i) (.int i t))(hs:∀x t,C (.str x) (.str x t)):C k v:=by
 rcases nO h with⟨i,t,rfl,rfl⟩|⟨x,t,rfl,rfl⟩
 ·exact m i t
 ·exact hs x t
theorem tS{a b:B5}{v:Value}(m:LB a v=true):LB b v=true→a=b:=JQ (C:=fun a v=>LB b v=true→a=b) m
 (fun i t hb=>JQ (C:=fun b v=>v=.int i t→B5.int i=b) hb (fun j u e=>congrArg B5.int (PySem.Value.int.inj e).1.symm) (fun x u e=>by cases e) rfl)
 (fun x t hb=>JQ (C:=fun b v=>v=.str x t→B5.str x=b) hb (fun j u e=>by cases e) (fun y u e=>congrArg B5.str (Zd9 e).1.symm) rfl)
theorem eP{α β:Type}[DecidableEq α][DecidableEq β]{f:α→β}(h:∀a b,f a=f b→a=b)(a b:α):decide (a=b)=decide (f a=f b):=by
 by_cases e:a=b
 ·exact(decide_eq_true e).trans (decide_eq_true (congrArg f e)).symm
 ·exact(decide_eq_false e).trans (decide_eq_false fun q=>e (h a b q)).symm
def PK(m:Ht)(w:AD):KeyKind m w B5 where
 is:=LB
 hash:=eh w
 inj:=fun v a b ha hb=>tS ha hb
 byValue:=fun k v h=>JQ (C:=fun n v=>carriedByValue v=true) h (fun n n=>rfl) (fun n n=>rfl)
 pyHash:=fun{A E s k v Q} hv=>JQ (C:=fun k v=>Q (eh w k) {s with toks:=s.toks+1}→AR (Ae m w) A (pyHash v) Q E s) hv (fun i t h=>wpAny_pyHash_int h) (fun x t h=>wpAny_pyHash_str h)
 eqBool:=fun{A E s a b u v Q} hu hv=>JQ (C:=fun a u=>Q (decide (a=b)) s→AR (Ae m w) A (eqBool u v) Q E s) hu
  (fun i t=>JQ (C:=fun b v=>Q (decide (B5.int i=b)) s→AR (Ae m w) A (eqBool (.int i t) v) Q E s) hv
   (fun j u h=>wpAny_eqBool_int (by rw[show(i==j)=decide (B5.int i=B5.int j)from eP (fun a b e=>B5.int.inj e) i j];exact h))
   (fun y u h=>sK (by rw[←decide_eq_false (p:=B5.int i=B5.str y) (by intro e;cases e)];exact h)))
  (fun x t=>JQ (C:=fun b v=>Q (decide (B5.str x=b)) s→AR (Ae m w) A (eqBool (.str x t) v) Q E s) hv
   (fun j u h=>zO (by rw[←decide_eq_false (p:=B5.str x=B5.int j) (by intro e;cases e)];exact h))
   (fun y u h=>wpAny_eqBool_str (by rw[show decide (x=y)=decide (B5.str x=B5.str y)from eP (fun a b e=>B5.str.inj e) x y];exact h)))
 «strs»:=fun k x t v h=>JQ (C:=fun k u=>u=.str x t→LB k v=v.isStr x) h (fun i t' e=>by cases e) (fun y t' e=>by
  have e:=(Zd9 e).1;subst e;cases v<;>rfl) rfl
inductive CO(h:A3)(a:AB)(xs:List AV):Prop
 |mk (items:Array Value) (n:Nat) (e:h.get? a=some {cls:=.type "list",data:=.seq items n}) (r:VRs h xs items.toList)
def Ci{m n a2}{c:Prop}:=@CO.casesOn m n a2 (fun zz=>c)
inductive Mx(h:A3)(a:AB)(n:Nat)(f:Str→Option AV):Prop
 |mk (o:C0) (es:Array XX) (ep:Nat) (ho:h.get? a=some o) (hc:o.cls=.type "dict") (hd:o.data=.dict es ep) (hk:Ia es) (hs:es.size≤n) (hf:∀y,(f y=none→Ib es y=none)∧(∀x,f y=some x→∃v,Ib es y=some v∧VR h x v))
def XD{m n a2 a3}{c:Prop}:=@Mx.casesOn m n a2 a3 (fun zz=>c)
def Eb(w:AD)(h:A3)(a:AB):AO→Prop
 |.list xs=>CO h a xs
 |.dictI es=>∃kvs,h.DictOf (E8 pg w) a kvs∧Cn h es kvs
 |.dictS es=>∃kvs,h.DictOf (strKind pg w) a kvs∧Cn h es kvs
 |.dictT es=>∃xs,h.DictOfH (tupleKind (PK pg w)) a xs∧DS h es xs
 |.inst C dx=>h.get? a=some {cls:=.ref C,dict:=some dx,data:=.plain}
 |.ns n f=>Mx h a n f
 |.setI S=>∃es ep t,h.get? a=some {cls:=.type "set",data:=.set es ep t}∧ElemsOf (E8 pg w) es.toList∧(∀k,k∈S↔∃e∈es.toList,(E8 pg w).is k e.2=true)∧es.size<KT∧t.fits es.size=true∧t.led=true
 |.frz o=>(∃es ep,o.data=.dict es ep∧Ia es)∧∃m,h.get? a=some {o with slots:=m}
theorem Eb.there{h:A3}{a:AB}{x:AO}(o:Eb w h a x):∃ob,h.get? a=some ob∧(ob.cls=.type "tuple"→∀items n,ob.data≠.seq items n)∧True:=by
 cases x with
 |list xs=>refine Ci o fun items n e m=>?_;exact⟨_,e,by simp,trivial⟩
 |dictI es=>refine Jy o fun kvs ob es ep e c m m=>?_;exact⟨_,e,by rw[c.1];exact(fun e=>nomatch e),trivial⟩
 |dictS es=>refine Jy o fun kvs ob es ep e c m m=>?_;exact⟨_,e,by rw[c.1];exact(fun e=>nomatch e),trivial⟩
 |dictT es=>refine Jy o fun kvs ob es ep e c m m=>?_;exact⟨_,e,by rw[c.1];exact(fun e=>nomatch e),trivial⟩
 |inst C dx=>exact⟨_,o,!(by intro e;injection e),trivial⟩
 |ns n f=>refine XD o fun ob es ep e c m m m m=>?_;exact⟨_,e,by rw[c];exact(fun e=>nomatch e),trivial⟩
 |setI S=>refine Kv o fun es ep t e m=>?_;exact⟨_,e,by simp,trivial⟩
 |frz ob=>refine Me o fun es ep d m sl e=>?_;exact⟨_,e,fun m items n q=>(by dsimp only at q;exact(nomatch ((d.symm.trans q)))),trivial⟩
theorem Eb.keeps{h h':A3}{a:AB}{x:AO}(o:Eb w h a x)(e:h'.get? a=h.get? a)(k:Bp h h'):Eb w h' a x:=by
 cases x with
 |list xs=>refine Ci o fun items n q r=>?_;exact⟨items,n,e.trans q,r.mono k⟩
 |dictI es=>refine PG o fun kvs m es ep q c r=>?_;exact⟨kvs,⟨m,es,ep,e.trans q,c⟩,r.mono k⟩
 |dictS es=>refine PG o fun kvs m es ep q c r=>?_;exact⟨kvs,⟨m,es,ep,e.trans q,c⟩,r.mono k⟩
 |dictT es=>
  refine AX o fun kvs a2=>AL a2 fun a0 r=>PE a0 fun m es ep q c1 c2 c3 c4 c5=>?_;refine⟨kvs,⟨m,es,ep,e.trans q,c1,c2,c3,fun y hy=>?_,c5⟩,r.mono k⟩;refine LN (c4 y hy) fun oo items n a1=>Bs a1 fun q1 q2 q3 q4=>?_;exact⟨oo,items,n,k _ _ _ _ q1 q2 q3,q2,q3,q4⟩
 |inst C dx=>exact e.trans o
 |ns n f=>
  refine XD o fun m es ep q c1 c2 c3 c4 c5=>?_;exact⟨m,es,ep,e.trans q,c1,c2,c3,c4,fun y=>⟨(c5 y).1,fun x hx=>AI ((c5 y).2 x hx) fun v p r=>⟨v,p,r.mono k⟩⟩⟩
 |setI S=>refine Kv o fun es ep t q r=>?_;exact⟨es,ep,t,e.trans q,r⟩
 |frz m=>refine Fw o fun d sl q=>?_;exact⟨d,sl,e.trans q⟩
set_option genInjectivity true
section
structure Ai:Prop where
 K:(hd.heap_1 w.params).In hb
 T:∃p loose mg mb,TopRead p loose mg mb hb
def Hj(o m:C0):Prop:=m=o∨((∃es ep,o.data=.dict es ep∧Ia es)∧∃n,m={o with slots:=n})
theorem Hj.refl(o:C0):Hj o o:=.inl rfl
theorem Hj.trans{a b c:C0}(x:Hj a b)(y:Hj b c):Hj a c:=by
 rcases x with rfl|⟨h,n,rfl⟩
 ·exact y
 ·rcases y with rfl|⟨_,m,rfl⟩
  ·exact .inr ⟨h,n,rfl⟩
  ·exact .inr ⟨h,m,rfl⟩
theorem Hj.data(x:Hj a b):b.data=a.data:=by rcases x with rfl|⟨_,m,rfl⟩<;>rfl
theorem Hj.of_ne(x:Hj a b)(h:∀es ep,a.data=.dict es ep→¬Ia es):b=a:=by rcases x with rfl|⟨⟨es,ep,q,k⟩,_⟩;rfl;exact absurd k (h es ep q)
def Ju(σ:AA)(h h':A3):Prop:=∀b o,h.get? b=some o→σ b=none→∃m,h'.get? b=some m∧Hj o m
structure G(σ:AA)(h:A3):Prop where
 base:∀b o,hb.get? b=some o→h.get? b=some o
 own:∀a x,σ a=some x→hb.get? a=none∧Eb w h a x
structure Ar(σ:AA)(s:AQ)(σ':AA)(s':AQ):Prop where
 evo:Ju σ s.heap s'.heap
 dom:∀b,σ' b≠none→σ b≠none∨s.heap.get? b=none
 gens:s'.gens=s.gens
 os:s'.os=s.os
variable {σ σ' σ'':AA} {s s' s'':AQ} {h h':A3} {A:Ab}
theorem G.notTup(g:G σ h)(e:h.get? a=some o)(c:o.cls=.type "tuple")(d:o.data=.seq items n):σ a=none:=by
 cases q:σ a with
 |none=>rfl
 |some x=>
  refine B2 ((g.own a x q).2.there) fun ob e' m zz=>?_;obtain rfl:=An ((e.symm.trans e'));exact absurd d (m c _ _)
theorem Ju.tup(g:G σ h)(e:Ju σ h h'):Bp h h':=fun a o m m q c d=>by
 refine AI (e a o q (g.notTup q c d)) fun o' n f=>?_;rw[n,f.of_ne (fun m m q=>!(nomatch ((d.symm.trans q))))]
theorem Ju.refl(σ:AA)(h:A3):Ju σ h h:=fun m o e m=>⟨o,e,.refl o⟩
theorem Ju.of_keeps(k:∀b o,h.get? b=some o→h'.get? b=some o):Ju σ h h':=fun m o e m=>⟨o,k _ _ e,.refl o⟩
theorem Ar.refl(σ:AA)(s:AQ):Ar σ s σ s:=⟨.refl _ _,fun m e=>.inl e,rfl,rfl⟩
theorem Ar.trans(x:Ar σ s σ' s')(y:Ar σ' s' σ'' s''):Ar σ s σ'' s'':=by
 refine⟨fun b o e n=>?_,fun b q=>?_,y.gens.trans x.gens,y.os.trans x.os⟩
 ·refine AI (x.evo b o e n) fun o' e' f=>?_;have n':σ' b=none:=by
   cases q:σ' b with
   |none=>rfl
   |some z=>
    rcases x.dom b (by rw[q];exact Ag _)with d|d
    ·exact absurd n d
    ·exact Bf ((e.symm.trans d))
  refine AI (y.evo b o' e' n') fun a0 m f'=>?_;exact⟨a0,m,f.trans f'⟩
 ·rcases y.dom b q with d|d
  ·exact x.dom b d
  ·cases q1:σ b with
   |some z=>exact .inl (!Ag _)
   |none=>
    refine .inr ?_;cases q2:s.heap.get? b with
    |none=>rfl
    |some o=>
     refine AI (x.evo b o q2 q1) fun o' e' zz=>?_;exact Au ((d.symm.trans e'))
theorem G.weaken(g:G σ h)(k:∀a x,σ' a=some x→σ a=some x):G σ' h:=⟨g.base,fun a x e=>g.own a x (k a x e)⟩
theorem Ar.weaken(x:Ar σ s σ' s')(k:∀a x,σ'' a=some x→σ' a=some x):Ar σ s σ'' s':=
 ⟨x.evo,fun b q=>x.dom b (by
  cases e:σ'' b with
  |none=>exact absurd e q
  |some z=>rw[k b z e];exact Ag _),x.gens,x.os⟩
def oc(env:Af):List AB:=(env.cells.filter fun p=>env.kindOf p.1==some .cell).map (·.2)
theorem J7(e:env.cells.lookup x=some c)(k:env.kindOf x=some .cell):c∈oc env:=
 BD.mpr ⟨(x,c),Dd.mpr ⟨mem_of_lookup e,by simp[k]⟩,rfl⟩
theorem mC{l:List (Str×AB)}(m:(l.map (·.2)).Nodup)(h1:(x,c)∈l)(h2:(y,c)∈l):x=y:=by
 induction l with
 |nil=>cases h1
 |cons p r ih=>
  rw[CB,FM]at m;rcases A7.mp h1 with e1|m1<;>rcases A7.mp h2 with n|m2
  ·rw[←e1]at n;exact(NX n).1.symm
  ·exact absurd (BD.mpr ⟨_,m2,by rw[←e1]⟩) m.1
  ·exact absurd (BD.mpr ⟨_,m1,by rw[←n]⟩) m.1
  ·exact ih m.2 m1 m2
theorem UC(hn:(oc env).Nodup)(e1:env.cells.lookup x=some c)(m:env.kindOf x=some .cell)(e2:env.cells.lookup y=some c)(n:env.kindOf y=some .cell):x=y:=
 mC hn (Dd.mpr ⟨mem_of_lookup e1,by simp[m]⟩) (Dd.mpr ⟨mem_of_lookup e2,by simp[n]⟩)
abbrev AW:=Str→Option AV
structure Rr(env:Af)(ρ:AW)(h:A3):Prop where
 ns:∃m,h.Ns env.locals m∧∀x av,ρ x=some av→env.kindOf x=some .local→∃v,m x=some v∧VR h av v
 cell:∀c∈oc env,∃v,h.IsCell c v
 cellv:∀x av,ρ x=some av→env.kindOf x=some .cell→∃c v,env.cells.lookup x=some c∧h.IsCell c (some v)∧VR h av v
 apart:(oc env).Nodup
 apart2:env.locals∉oc env
structure St(env:Af)(ρ:AW)(σ:AA)(h:A3):Prop where
 g:G σ h
 l:Rr env ρ h
 nL:σ env.locals=none∧hb.get? env.locals=none
 nC:∀c∈oc env,σ c=none∧hb.get? c=none
theorem Rr.evo(l:Rr env ρ h)(nL:σ env.locals=none)(nC:∀c∈oc env,σ c=none)(e:Ju σ h h')(t:Bp h h'):Rr env ρ h':=by
 refine UX l.ns fun m o es ep ho hd hk hf hm=>?_;refine AI (e _ o ho nL) fun o' a2 f=>?_;refine⟨⟨m,⟨o',es,ep,a2,f.data.trans hd,hk,hf⟩,fun x av q k=>AI (hm x av q k) fun v a b=>⟨v,a,b.mono t⟩⟩,fun c q=>?_,fun x av q k=>?_,l.apart,l.apart2⟩
 ·refine Cp (l.cell c q) fun v oc a1 c2=>?_;refine AI (e _ oc a1 (nC _ q)) fun a0 n f'=>?_;exact⟨v,a0,n,f'.data.trans c2⟩
 ·refine OC (l.cellv x av q k) fun c v q1 oc a1 c2 r=>?_;refine AI (e _ oc a1 (nC _ (J7 q1 k))) fun a0 n f'=>?_;exact⟨c,v,q1,⟨a0,n,f'.data.trans c2⟩,r.mono t⟩
theorem Ar.dead(x:Ar σ s σ' s')(e:s.heap.get? b=some o)(n:σ b=none):σ' b=none:=by
 cases q:σ' b with
 |none=>rfl
 |some z=>
  rcases x.dom b (by rw[q];exact Ag _)with d|d
  ·exact absurd n d
  ·exact Bf ((e.symm.trans d))
theorem St.step(S:St env ρ σ s.heap)(g:G σ' s'.heap)(x:Ar σ s σ' s'):St env ρ σ' s'.heap:=by
 refine⟨g,S.l.evo S.nL.1 (fun c m=>(S.nC c m).1) x.evo (x.evo.tup S.g),⟨?_,S.nL.2⟩,fun c m=>⟨?_,(S.nC c m).2⟩⟩
 ·refine PG S.l.ns fun m o n n ho n n=>?_;exact x.dead ho S.nL.1
 ·refine Cp (S.l.cell c m) fun n o ho n=>?_;exact x.dead ho (S.nC _ m).1
inductive PV(σ:AA)(s:AQ)(Φ:AV→AA→Prop)(v:Value)(s':AQ):Prop
 |mk (av:AV) (σ':AA) (r:VR s'.heap av v) (g:G σ' s'.heap) (t:Ar σ s σ' s') (q:Φ av σ')
def BG{m a1 a2 a3 n}{c:Prop}:=@PV.casesOn m a1 a2 a3 n (fun _=>c)
inductive PL(σ:AA)(s:AQ)(Φ:List AV→AA→Prop)(v:List Value)(s':AQ):Prop
 |mk (av:List AV) (σ':AA) (r:VRs s'.heap av v) (g:G σ' s'.heap) (t:Ar σ s σ' s') (q:Φ av σ')
def GM{m a1 a2 a3 n}{c:Prop}:=@PL.casesOn m a1 a2 a3 n (fun _=>c)
inductive PB(σ:AA)(s:AQ)(Φ:Bool→AA→Prop)(v:Bool)(s':AQ):Prop
 |mk (σ':AA) (g:G σ' s'.heap) (t:Ar σ s σ' s') (q:Φ v σ')
def E0{m a1 a2 a3 n}{c:Prop}:=@PB.casesOn m a1 a2 a3 n (fun _=>c)
inductive PU(σ:AA)(s:AQ)(Φ:AA→Prop)(v:Unit)(s':AQ):Prop
 |mk (σ':AA) (g:G σ' s'.heap) (t:Ar σ s σ' s') (q:Φ σ')
def Sz{m a1 a2 a3 n}{c:Prop}:=@PU.casesOn m a1 a2 a3 n (fun _=>c)
inductive Is{α:Type}(c:α)(P:AA→Prop)(v:α)(σ:AA):Prop
 |mk (e:v=c) (q:P σ)
def XB{m a1 a2 a3 n}{c:Prop}:=@Is.casesOn m a1 a2 a3 n (fun zz=>c)
def ER(A:Ab)(t:Sem Value)(σ:AA)(s:AQ)(Φ:AV→AA→Prop):Prop:=
 AR (Ae pg w) A t (PV σ s Φ) (fun m m=>False) s
def wD(A:Ab)(t:Sem (List Value))(σ:AA)(s:AQ)(Φ:List AV→AA→Prop):Prop:=
 AR (Ae pg w) A t (PL σ s Φ) (fun m m=>False) s
def Wf(A:Ab)(t:Sem Bool)(σ:AA)(s:AQ)(Φ:Bool→AA→Prop):Prop:=
 AR (Ae pg w) A t (PB σ s Φ) (fun m m=>False) s
def QX(A:Ab)(t:Sem Unit)(σ:AA)(s:AQ)(Φ:AA→Prop):Prop:=
 AR (Ae pg w) A t (PU σ s Φ) (fun m m=>False) s
def EV(A:Ab)(env:Af)(e:Expr)(ρ:AW)(σ:AA)(Φ:AV→AA→Prop):Prop:=
 ∀s,St env ρ σ s.heap→ER A (A0 e env) σ s Φ
def AC(A:Ab)(env:Af)(m:A8)(es:List Expr)(ρ:AW)(σ:AA)(Φ:List AV→AA→Prop):Prop:=
 ∀s,St env ρ σ s.heap→wD A (spliced (Df m (BZ es env))) σ s Φ
def TR(A:Ab)(env:Af)(e:Expr)(ρ:AW)(σ:AA)(Φ:Bool→AA→Prop):Prop:=
 ∀s,St env ρ σ s.heap→Wf A (isTrue e env (A0 e env)) σ s Φ
def AF(A:Ab)(f:Value)(args:List AV)(σ:AA)(Φ:AV→AA→Prop):Prop:=
 ∀s vs,G σ s.heap→VRs s.heap args vs→ER A (call f vs) σ s Φ
def fp(env:Af):List AB:=env.locals::oc env
def fx(env:Af)(σ:AA):AA:=fun b=>if b∈fp env then some (.setI [])else σ b
inductive CK where
 |next|brk|cont
 |ret (v:AV)
def ZW(h:A3):CK→Ic→Prop
 |.next,.next=>True
 |.brk,.brk=>True
 |.cont,.cont=>True
 |.ret x,.ret v=>VR h x v
 |_,_=>False
inductive PX(env:Af)(σ:AA)(s:AQ)(Φ:CK→AW→AA→Prop)(fl:Ic)(s':AQ):Prop
 |mk (af:CK) (ρ':AW) (σ':AA) (r:ZW s'.heap af fl) (S:St env ρ' σ' s'.heap) (t:Ar (fx env σ) s (fx env σ') s') (q:Φ af ρ' σ')
def HI{m a1 a2 a3 n a5}{c:Prop}:=@PX.casesOn m a1 a2 a3 n a5 (fun _=>c)
inductive PN(env:Af)(σ:AA)(s:AQ)(Φ:AW→AA→Prop)(u:Unit)(s':AQ):Prop
 |mk (ρ':AW) (σ':AA) (S:St env ρ' σ' s'.heap) (t:Ar (fx env σ) s (fx env σ') s') (q:Φ ρ' σ')
def Je{m a1 a2 a3 n a5}{c:Prop}:=@PN.casesOn m a1 a2 a3 n a5 (fun _=>c)
def I7(A:Ab)(env:Af)(t:Sem Ic)(ρ:AW)(σ:AA)(Φ:CK→AW→AA→Prop):Prop:=
 ∀s,St env ρ σ s.heap→AR (Ae pg w) A t (PX env σ s Φ) (fun m m=>False) s
abbrev EX(A:Ab)(env:Af)(st:List DD)(ρ:AW)(σ:AA)(Φ:CK→AW→AA→Prop):Prop:=I7 A env (Ff st env) ρ σ Φ
abbrev Eg(A:Ab)(env:Af)(st:DD)(ρ:AW)(σ:AA)(Φ:CK→AW→AA→Prop):Prop:=I7 A env (GR st env) ρ σ Φ
def AP(A:Ab)(env:Af)(t:Value→Sem Unit)(x:AV)(ρ:AW)(σ:AA)(Φ:AW→AA→Prop):Prop:=
 ∀s v,St env ρ σ s.heap→VR s.heap x v→AR (Ae pg w) A (t v) (PN env σ s Φ) (fun m m=>False) s
theorem Ar.toF{env:Af}(x:Ar σ s σ' s'):Ar (fx env σ) s (fx env σ') s':=by
 refine⟨fun b o e n=>x.evo b o e ?_,fun b q=>?_,x.gens,x.os⟩
 ·unfold Internal.fx at n;split at n
  ·exact Bf n
  ·exact n
 ·unfold Internal.fx at q ⊢;split at q
  ·rename_i m;rw[if_pos m];exact .inl (!Ag _)
  ·rename_i m;rw[if_neg m];exact x.dom b q
structure Ah(A:Ab)(n:Nat):Prop where
 depth:A.depth+2*n<recursionLimit
 units:A.units+16*n<Hu
 handled:A.handled=none
theorem Ah.mono(r:Ah A n)(h:m≤n):Ah A m:=⟨by have:=r.depth;exact Cb uf h this,by have:=r.units;exact Cb rP h this,r.handled⟩
theorem Ah.d(r:Ah A n)(h:0<n:=by omega):A.depth<recursionLimit:=by have:=r.depth;exact BS yg this
theorem Ah.u1(r:Ah A n)(h:0<n:=by omega):A.in1.units<Hu:=by have:=r.units;show A.units+1<Hu;exact BS rH h this
theorem Ah.deeper(r:Ah A (n+1))(env:Af):Ah (A.deeper env) n:=⟨by have:=r.depth;show A.depth+1+2*n<_;exact BS eB this,by have:=r.units;show A.units+3+16*n<_;exact BS mY this,r.handled⟩
theorem Ah.up{m n:Nat}(r:Ah A (n+1)){env:Af}(h:Nat.ble m n=true):Ah (A.deeper env) m:=(r.deeper env).mono (ld h)
theorem Ah.lo{m n:Nat}(r:Ah A n)(h:Nat.ble m n=true):Ah A m:=r.mono (ld h)
theorem ER.mono(x:ER A t σ s Φ)(k:∀v σ',Φ v σ'→Ψ v σ'):ER A t σ s Ψ:=
 AT x (fun n n m=>BG m fun a b c d e f=>⟨a,b,c,d,e,k _ _ f⟩) fun n n e=>e
theorem EV.mono(x:EV A env e ρ σ Φ)(k:∀v σ',Φ v σ'→Ψ v σ'):EV A env e ρ σ Ψ:=
 fun s S=>(x s S).mono k
theorem G.push(g:G σ h)(o:C0):G σ (h.push o):=by
 refine⟨fun b n e=>BC _ (g.base b n e),fun a x e=>⟨(g.own a x e).1,?_⟩⟩;refine AI ((g.own a x e).2.there) fun ob q m=>?_;exact(g.own a x e).2.keeps ((BC _ q).trans q.symm) fun a o m m e m m=>BC _ e
theorem G.fresh(g:G σ h):σ h.objs.size=none∧hb.get? h.objs.size=none:=by
 constructor
 ·cases q:σ h.objs.size with
  |none=>rfl
  |some x=>
   refine AI ((g.own _ x q).2.there) fun n e m=>?_;exact absurd (DJ e) (EI _)
 ·cases q:hb.get? h.objs.size with
  |none=>rfl
  |some o=>exact absurd (DJ (g.base _ _ q)) (EI _)
theorem G.pushOwn(g:G σ h)(o:C0){x:AO}(m:Eb w (h.push o) h.objs.size x):G (upd σ h.objs.size x) (h.push o):=by
 refine⟨(g.push o).base,fun a y e=>?_⟩;unfold upd at e;split at e
 ·rename_i q;subst q;obtain rfl:=An e;exact⟨g.fresh.2,m⟩
 ·exact(g.push o).own a y e
theorem Ar.push(o:C0):Ar σ s σ {s with heap:=s.heap.push o}:=⟨.of_keeps fun m m e=>BC _ e,fun m e=>.inl e,rfl,rfl⟩
theorem GK(h:A3):h.get? h.objs.size=none:=Ie (A9 _)
theorem Ar.pushOwn(o:C0)(x:AO):Ar σ s (upd σ s.heap.objs.size x) {s with heap:=s.heap.push o}:=
 ⟨.of_keeps fun _ _ e=>BC _ e,fun b q=>by
  unfold upd at q;split at q
  ·rename_i e;subst e;exact .inr (GK _)
  ·exact .inl q,rfl,rfl⟩
theorem Ar.toks(t:Nat):Ar σ s σ {s with toks:=t}:=⟨.refl _ _,fun m e=>.inl e,rfl,rfl⟩
theorem G.set(g:G σ h){a:AB}{x y:AO}(e:σ a=some x)(hs:E9 a h h')(hy:Bp h h'→Eb w h' a y):G (upd σ a y) h':=by
 have na:=(g.own a x e).1;refine B2 ((g.own a x e).2.there) fun ob q c1 c2=>?_;have tk:Bp h h':=fun b o _ _ m c d=>(hs.2 b (by rintro rfl;obtain rfl:=An ((q.symm.trans m));exact c1 c _ _ d)).trans m;refine⟨fun b o m=>(hs.2 b (by rintro rfl;exact Au ((na.symm.trans m)))).trans (g.base b o m),fun b z n=>?_⟩;unfold upd at n;split at n
 ·rename_i m;subst m;obtain rfl:=An n;exact⟨na,hy tk⟩
 ·rename_i m;exact⟨(g.own b z n).1,(g.own b z n).2.keeps (hs.2 b m) tk⟩
theorem Ar.set{a:AB}{x y:AO}(e:σ a=some x)(hs:E9 a s.heap s'.heap)(h1:s'.gens=s.gens)(h2:s'.os=s.os):Ar σ s (upd σ a y) s':=by
 refine⟨fun b o q n=>⟨o,(hs.2 b (by rintro rfl;exact Bf ((e.symm.trans n)))).trans q,.refl o⟩,fun b q=>?_,h1,h2⟩;unfold upd at q;split at q
 ·rename_i m;subst m;exact .inl (by rw[e];exact Ag _)
 ·exact .inl q
end
set_option genInjectivity false
section
variable {σ σ' σ'':AA} {s s' s'':AQ} {h h':A3} {A:Ab} {env:Af} {ρ:AW}
def J9(A:Ab)(f:Value→Sem Value)(x:AV)(σ:AA)(Φ:AV→AA→Prop):Prop:=
 ∀s u,G σ s.heap→VR s.heap x u→ER A (f u) σ s Φ
def AM(A:Ab)(f:Value→Value→Sem Value)(x y:AV)(σ:AA)(Φ:AV→AA→Prop):Prop:=
 ∀s u v,G σ s.heap→VR s.heap x u→VR s.heap y v→ER A (f u v) σ s Φ
def BF(A:Ab)(x:AV)(σ:AA)(Φ:Bool→AA→Prop):Prop:=
 ∀s u,G σ s.heap→VR s.heap x u→Wf A (truthy u) σ s Φ
abbrev fA(A:Ab)(Φ:Bool→AA→Prop):AV→AA→Prop:=fun z σ=>BF A z σ Φ
abbrev qG(A:Ab)(f:Value→Value→Sem Value)(x:AV)(Φ:AV→AA→Prop):AV→AA→Prop:=fun y σ=>AM A f x y σ Φ
abbrev Wt(A:Ab)(env:Af)(r:Expr)(ρ:AW)(f:Value→Value→Sem Value)(Φ:AV→AA→Prop):AV→AA→Prop:=fun x σ=>EV A env r ρ σ (qG A f x Φ)
abbrev se(A:Ab)(f:Value→Sem Value)(Φ:AV→AA→Prop):AV→AA→Prop:=fun x σ=>J9 A f x σ Φ
abbrev mq(A:Ab)(env:Af)(b e:Expr)(ρ:AW)(Φ:AV→AA→Prop):Bool→AA→Prop:=fun c σ=>if c then EV A env b ρ σ Φ else EV A env e ρ σ Φ
abbrev WY(Φ:List AV→AA→Prop)(x:AV):List AV→AA→Prop:=fun xs σ=>Φ (x::xs) σ
abbrev sL(A:Ab)(env:Af)(m:A8)(rest:List Expr)(ρ:AW)(Φ:List AV→AA→Prop):AV→AA→Prop:=fun x σ=>AC A env m rest ρ σ (WY Φ x)
abbrev vG(Φ:AV→AA→Prop):List AV→AA→Prop:=fun xs σ=>xs.length≤1000∧Φ (.tup xs) σ
abbrev lb(Φ:AV→AA→Prop):List AV→AA→Prop:=fun xs σ=>xs.length≤1000∧∀a,σ a=none→hb.get? a=none→Φ (.ref a) (upd σ a (.list xs))
theorem DC(hv:ρ x=some n)(hl:env.kindOf x=some .local)(q:Φ n σ)
  (hk:autoParam (env.scope.kind=.function) aR)(hd:autoParam ((x==("__debug__":Str))=false) aD):EV A env (.Name x a0) ρ σ Φ:=fun s S=>by
 refine AI S.l.ns fun m hn hm=>?_;refine AI (hm x n hv hl) fun v e r=>?_;exact NY (Lj hk hl hn e ⟨n,σ,r,S.g,.refl _ _,q⟩) hd
theorem EV.cell(hv:ρ x=some m)(n:env.kindOf x=some .cell)(q:Φ m σ)
  (hk:autoParam (env.scope.kind=.function) aR)(hd:autoParam ((x==("__debug__":Str))=false) aD):EV A env (.Name x a0) ρ σ Φ:=fun s S=>by
 refine Ec (S.l.cellv x m hv n) fun c v e hc r=>?_;exact NY (wpAny_loadName_cell hk n e hc ⟨m,σ,r,S.g,.refl _ _,q⟩) hd
theorem NM{x:Str}{m:A8}{v:Value}{Φ:AV→AA→Prop}(B:Ai)(e:Cj (hd.heap_1 w.params) Bh x=some (some v))(q:Φ (.fix v) σ)
  (hx:autoParam (env.kindOf x=some .globalImplicit) aR)(hk:autoParam (env.scope.kind=.function) aR)(n:autoParam (env.globals=Bh) aR)
  (hd:autoParam ((x==("__debug__":Str))=false) aD):EV A env (.Name x m) ρ σ Φ:=fun s S=>by
 refine EY B.T fun p loose mg mb T=>?_;exact XY hk hx (gy (n▸T.g.keeps S.g.base) (mg_of B.K T.g e) ⟨_,σ,.fix v,S.g,.refl _ _,q⟩) hd
theorem Fd(B:Ai)(e:Cj (hd.heap_1 w.params) Bh x=some none)(hv:Gr x=some v)(q:Φ (.fix v) σ)
  (hn:autoParam (x≠"__name__") aD)(hx:autoParam (env.kindOf x=some .globalImplicit) aR)(hk:autoParam (env.scope.kind=.function) aR)(hg:autoParam (env.globals=Bh) aR)(m:autoParam (env.builtins=TH) aR)
  (hd:autoParam ((x==("__debug__":Str))=false) aD):EV A env (.Name x n) ρ σ Φ:=fun s S=>by
 refine EY B.T fun p loose mg mb T=>?_;exact XY hk hx (g4 (hg▸T.g.keeps S.g.base) (mg_none_of B.K T.g e) (m▸T.b.keeps S.g.base) ((T.builtins x hn).trans hv) ⟨_,σ,.fix v,S.g,.refl _ _,q⟩) hd
theorem BB{i:Int}{k:Nat}{m:A8}{Φ:AV→AA→Prop}(q:Φ (.int i) σ):EV A env (.Constant (.int i) k m) ρ σ Φ:=
 fun s S=>wpAny_Constant_int ⟨_,σ,.int _ _,S.g,.toks _,q⟩
theorem DB(q:Φ (.str x) σ):EV A env (.Constant (.str x) k m) ρ σ Φ:=
 fun s S=>TI ⟨_,σ,.str _ _,S.g,.toks _,q⟩
theorem Lb(q:Φ (.bool b) σ):EV A env (.Constant (.bool b) k m) ρ σ Φ:=
 fun s S=>wpAny_Constant_bool ⟨_,σ,.bool _,S.g,.refl _ _,q⟩
theorem XH(q:Φ .none σ):EV A env (.Constant .none k m) ρ σ Φ:=
 fun s S=>wpAny_Constant_none ⟨_,σ,.none,S.g,.refl _ _,q⟩
theorem CE{l r:Expr}{op:Operator}{b2:A8}{Φ:AV→AA→Prop}
  (k:EV A env l ρ σ (Wt A env r ρ (KU op) Φ)):EV A env (.BinOp l op r b2) ρ σ Φ:=fun s S=>
 wpAny_BinOp (AT (k s S) (fun u s₁ b0=>BG b0 fun x b1 a5 m a0 a4=>AT (a4 s₁ (S.step m a0)) (fun v s₂ b3=>BG b3 fun y σ₂ a7 a8 n a9=>AT (a9 s₂ u v a8 (a5.mono (n.evo.tup m)) a7) (fun z b5 b4=>BG b4 fun z' a1 a3 a6 a2 q=>⟨z',a1,a3,a6,a0.trans (n.trans a2),q⟩) fun zz zz e=>e) fun zz zz e=>e) fun zz zz e=>e)
theorem NA
  (k:EV A env l ρ σ (Wt A env r ρ (Dx op) Φ))(hm:autoParam (XZ op r=false) aR):
  EV A env (.Compare l [op] [r] b5) ρ σ Φ:=fun s S=>
 wpAny_Compare1 (AT (k s S) (fun u s₁ b1=>BG b1 fun x b0 a5 m a0 a4=>AT (a4 s₁ (S.step m a0)) (fun v s₂ b2=>BG b2 fun y σ₂ a7 a8 n a9=>AT (a9 s₂ u v a8 (a5.mono (n.evo.tup m)) a7) (fun z b4 b3=>BG b3 fun z' a1 a3 a6 a2 q=>⟨z',a1,a3,a6,a0.trans (n.trans a2),q⟩) fun zz zz e=>e) fun zz zz e=>e) fun zz zz e=>e) hm
theorem Bg
  (k:EV A env l ρ σ (Wt A env r ρ (Dx op) (fA A Φ)))(hm:autoParam (XZ op r=false) aR):
  TR A env (.Compare l [op] [r] c4) ρ σ Φ:=fun s S=>
 wpAny_isTrue_Compare1 (AT (k s S) (fun u s₁ b6=>BG b6 fun x b4 a7 m a0 a6=>AT (a6 s₁ (S.step m a0)) (fun v s₂ b7=>BG b7 fun y σ₂ b0 b2 n b3=>AT (b3 s₂ u v b2 (a7.mono (n.evo.tup m)) b0) (fun z b1 c1=>BG c1 fun z' c2 a5 a8 a2 a3=>AT (a3 b1 z a8 a5) (fun b c3 b5=>E0 b5 fun a1 a9 a4 q=>⟨a1,a9,a0.trans (n.trans (a2.trans a4)),q⟩) fun zz zz e=>e) fun zz zz e=>e) fun zz zz e=>e) fun zz zz e=>e) hm
theorem Pn(k:TR A env x ρ σ fun b m=>Φ (not (b)) m):TR A env (.UnaryOp .Not x a0) ρ σ Φ:=fun s S=>
 wpAny_isTrue_Not (AT (k s S) (fun b s₁ n=>E0 n fun m g t q=>⟨m,g,t,q⟩) fun zz zz e=>e)
theorem Pr(k:EV A env e ρ σ (fA A Φ))
  (he:∀env m,isTrue e env m=(do let v ←m;Ck e.pos;CS [v] (truthy v)):=by intro zz zz;rfl):TR A env e ρ σ Φ:=fun s S=>
 wpAny_isTrue_value (AT (k s S) (fun u s₁ a6=>BG a6 fun x a5 a2 n a3 a0=>AT (a0 s₁ u n a2) (fun b s₂ a7=>E0 a7 fun σ₂ a4 a1 q=>⟨σ₂,a4,a3.trans a1,q⟩) fun zz zz e=>e) fun zz zz e=>e) (he _ _)
def Ca(A:Ab)(env:Af)(m:BoolOp)(es:List Expr)(ρ:AW)(σ:AA)(Φ:Bool→AA→Prop):Prop:=
 ∀s,St env ρ σ s.heap→Wf A (allTrue m es env) σ s Φ
theorem Le{m:BoolOp}(k:Ca A env m es ρ σ Φ):TR A env (.BoolOp m es n) ρ σ Φ:=
 fun s S=>wpAny_isTrue_BoolOp (k s S)
theorem Zb6(q:Φ true σ):Ca A env .And [] ρ σ Φ:=fun s S=>wpAny_allTrue_And_nil ⟨σ,S.g,.refl _ _,q⟩
theorem NH(q:Φ false σ):Ca A env .Or [] ρ σ Φ:=fun s S=>wpAny_allTrue_Or_nil ⟨σ,S.g,.refl _ _,q⟩
abbrev yc(A:Ab)(env:Af)(rest:List Expr)(ρ:AW)(Φ:Bool→AA→Prop):Bool→AA→Prop:=fun b σ=>if b then Ca A env .And rest ρ σ Φ else Φ false σ
abbrev nc(A:Ab)(env:Af)(rest:List Expr)(ρ:AW)(Φ:Bool→AA→Prop):Bool→AA→Prop:=fun b σ=>if b then Φ true σ else Ca A env .Or rest ρ σ Φ
theorem gR(k:TR A env x ρ σ (yc A env rest ρ Φ)):
  Ca A env .And (x::rest) ρ σ Φ:=fun s S=>wpAny_allTrue_And_cons (AT (k s S) (fun b s₁ a1=>E0 a1 fun m g t q=>by
   cases b with
   |false=>exact⟨m,g,t,q⟩
   |true=>exact AT (q s₁ (S.step g t)) (fun b s₂ a2=>E0 a2 fun σ₂ a0 n q=>⟨σ₂,a0,t.trans n,q⟩) fun zz zz e=>e) fun zz zz e=>e)
theorem HJ(k:TR A env x ρ σ (nc A env rest ρ Φ)):
  Ca A env .Or (x::rest) ρ σ Φ:=fun s S=>wpAny_allTrue_Or_cons (AT (k s S) (fun b s₁ a1=>E0 a1 fun m g t q=>by
   cases b with
   |true=>exact⟨m,g,t,q⟩
   |false=>exact AT (q s₁ (S.step g t)) (fun b s₂ a2=>E0 a2 fun σ₂ a0 n q=>⟨σ₂,a0,t.trans n,q⟩) fun zz zz e=>e) fun zz zz e=>e)
theorem gm{op a1:CmpOp}
  (k:EV A env l ρ σ fun x a6=>EV A env r ρ a6 fun y σ₂=>AM A (Dx op) x y σ₂ fun c a3=>BF A c a3 fun b a0=>
   if b then EV A env z ρ a0 fun u a2=>AM A (Dx a1) y u a2 fun c' a5=>BF A c' a5 Φ else Φ false a0)
  (hm:autoParam (XZ a1 z=false) aR):TR A env (.Compare l [op,a1] [r,z] c1) ρ σ Φ:=fun s S=>by
 show AR _ _ (do testChain c1 (←A0 l env) [op,a1] [A0 r env,markedBehindIn a1 z (A0 z env)]) _ _ _
 rw[markedBehindIn_of_false hm];refine AE (AT (k s S) (fun u s₁ e8=>BG e8 fun x a6 e2 a7 b5 c6=>?_) fun n n e=>e);show AR _ _ (do
  let rv ←CS [u] (A0 r env)
  Ck c1
  let c ←CS [u,rv] (Dx op u rv)
  Lk [u,rv] [c]
  if ←CS [c,rv] (truthy c)then testChain c1 rv [a1] [A0 z env]else pure false) _ _ _
 refine AE (CF (AT (c6 s₁ (S.step a7 b5)) (fun v s₂ e9=>BG e9 fun y σ₂ b2 b7 b4 e0=>?_) fun n n e=>e));refine AE (EJ (AE (CF (AT (e0 s₂ u v b7 (e2.mono (b4.evo.tup a7)) b2) (fun c d6 f1=>BG f1 fun c' a3 c5 b1 a8 c9=>?_) fun n n e=>e))));have e6:∀(vs ks:List Value)(Q:Unit→AQ→Prop)(s:AQ),Q Unit.unit s→AR (Ae pg w) A (Lk vs ks) Q (fun n n=>False) s:=fun vs ks Q s q Γ p n=>by rw[Sem.wp_release];exact q
 refine AE (e6 _ _ _ _ (AE (CF (AT (c9 d6 c b1 c5) (fun b d4 f2=>E0 f2 fun a0 a4 b0 b3=>?_) fun n n e=>e))));have T:=b5.trans (b4.trans (a8.trans b0));cases b with
 |false=>exact Ad ⟨a0,a4,T,b3⟩
 |true=>
  refine AE (CF (AT (b3 d4 (S.step a4 T)) (fun z' a9 f5=>BG f5 fun u' a2 d5 e3 b6 e5=>?_) fun n n e=>e));have c3:VR a9.heap y v:=((b2.mono (a8.evo.tup b7)).mono (b0.evo.tup b1)).mono (b6.evo.tup a4);refine AE (EJ (AE ?_));have e7:∀(vs:List Value)(m:Sem Value)(Q:Value→AQ→Prop)(s:AQ),AR (Ae pg w) A m Q (fun n n=>False) s→AR (Ae pg w) A (operate vs m) Q (fun n n=>False) s:=fun vs m Q s q Γ p f0=>by rw[Sem.wp_operate];exact q Γ p f0
  refine e7 _ _ _ _ (AT (e5 a9 v z' e3 c3 d5) (fun d d1 f3=>BG f3 fun d' a5 d2 c4 e4 d3=>?_) fun n n e=>e);exact CF (AT (d3 d1 d c4 d2) (fun b g0 f4=>E0 f4 fun c2 c8 e1 q=>⟨c2,c8,T.trans (b6.trans (e4.trans e1)),q⟩) fun n n e=>e)
theorem ND{t b e:Expr}{a1:A8}{Φ:AV→AA→Prop}(k:TR A env t ρ σ (mq A env b e ρ Φ)):
  EV A env (.IfExp t b e a1) ρ σ Φ:=fun s S=>wpAny_IfExp (AT (k s S) (fun c s₁ a2=>E0 a2 fun a0 g t q=>by
   cases c<;>exact AT (q s₁ (S.step g t)) (fun v s₂ a3=>BG a3 fun av σ₂ r n m q=>⟨av,σ₂,r,n,t.trans m,q⟩) fun zz zz e=>e) fun zz zz e=>e)
theorem Ph{op:UnaryOp}{x:Expr}{a6:A8}{Φ:AV→AA→Prop}(k:EV A env x ρ σ (se A (unaryOp op) Φ)):EV A env (.UnaryOp op x a6) ρ σ Φ:=fun s S=>
 wpAny_UnaryOp (AT (k s S) (fun u s₁ a7=>BG a7 fun x a5 a2 m a3 a0=>AT (a0 s₁ u m a2) (fun v s₂ n=>BG n fun av σ₂ r a4 a1 q=>⟨av,σ₂,r,a4,a3.trans a1,q⟩) fun zz zz e=>e) fun zz zz e=>e)
theorem BO(q:Φ b σ):BF A (.bool b) σ Φ:=fun s u g r=>by
 obtain rfl:=Po r;exact Pv ⟨σ,g,.refl _ _,q⟩
theorem AC.nil(q:Φ [] σ):AC A env m [] ρ σ Φ:=fun s S=>TJ ⟨[],σ,.nil,S.g,.refl _ _,q⟩
theorem AC.cons(k:EV A env e ρ σ (sL A env a8 rest ρ Φ))
  (he:autoParam (∀env,BZ (e::rest) env=(false,A0 e env)::BZ rest env) aI):AC A env a8 (e::rest) ρ σ Φ:=fun s S=>
 TL (AT (k s S) (fun v s₁ a1=>BG a1 fun x a7 a3 m a0 a2=>AT (a2 s₁ (S.step m a0)) (fun vs s₂ a4=>GM a4 fun xs σ₂ a5 a6 n q=>
  ⟨x::xs,σ₂,.cons (a3.mono (n.evo.tup m)) a5,a6,a0.trans n,q⟩) fun zz zz e=>e) fun zz zz e=>e) (he _)
theorem Bt(x:AC A env a0 es ρ σ (vG Φ)):
  EV A env (.Tuple es k a0) ρ σ Φ:=fun s S=>
 wpAny_Tuple (AT (x s S) (fun vs s₁ m=>GM m fun xs n r g t m=>AL m fun hl q=>by
  refine⟨by rw[←r.length,CG];exact ln hl rfl,.tup xs,n,.tup (Bz _ rfl) (r.mono fun zz zz zz zz e zz zz=>BC _ e),g.push _,t.trans (.push _),q⟩) fun zz zz e=>e)
theorem DU(x:AC A env a0 es ρ σ (lb Φ)):
  EV A env (.List es a0) ρ σ Φ:=fun s S=>
 wpAny_List (AT (x s S) (fun vs s₁ m=>GM m fun xs n r g t m=>AL m fun hl q=>by
  refine⟨by rw[←r.length,CG];exact ln hl rfl,.ref _,upd n s₁.heap.objs.size (.list xs),.ref _,g.pushOwn _ ⟨_,_,Bz _ rfl,r.mono fun zz zz zz zz e zz zz=>BC _ e⟩,t.trans (.pushOwn _ _),q _ g.fresh.1 g.fresh.2⟩) fun zz zz e=>e)
theorem Ax(q:Φ .next ρ σ):EX A env [] ρ σ Φ:=fun s S=>Xa ⟨.next,ρ,σ,trivial,S,.refl _ _,q⟩
def ue(A:Ab)(env:Af)(rest:List DD)(Φ:CK→AW→AA→Prop):CK→AW→AA→Prop
 |.next,ρ,σ=>EX A env rest ρ σ Φ
 |f,ρ,σ=>Φ f ρ σ
theorem AJ{st:DD}(k:Eg A env st ρ σ (ue A env rest Φ)):
  EX A env (st::rest) ρ σ Φ:=fun s S=>Pw (AT (k s S) (fun fl s₁ a5=>HI a5 fun f a1 a0 r m n q=>by
   cases fl<;>cases f<;>first
    |exact r.elim
    |exact AT (q s₁ m) (fun fl s₂ a6=>HI a6 fun f a2 σ₂ r a3 a4 q=>⟨f,a2,σ₂,r,a3,n.trans a4,q⟩) fun zz zz e=>e
    |exact⟨_,a1,a0,r,m,n,q⟩) fun zz zz e=>e)
abbrev lR(ρ:AW)(Φ:CK→AW→AA→Prop):AV→AA→Prop:=fun v σ=>Φ (.ret v) ρ σ
abbrev ug(ρ:AW)(Φ:CK→AW→AA→Prop):AV→AA→Prop:=fun _ σ=>Φ .next ρ σ
abbrev ut(Φ:CK→AW→AA→Prop):AW→AA→Prop:=fun ρ σ=>Φ .next ρ σ
abbrev qg(A:Ab)(env:Af)(b e:List DD)(ρ:AW)(Φ:CK→AW→AA→Prop):Bool→AA→Prop:=fun c σ=>if c then EX A env b ρ σ Φ else EX A env e ρ σ Φ
theorem B8(k:EV A env e ρ σ (lR ρ Φ)):Eg A env (.Return (some e) a0) ρ σ Φ:=fun s S=>
 wpAny_Return_some (AT (k s S) (fun v s₁ n=>BG n fun x m r g t q=>⟨.ret x,ρ,m,r,S.step g t,t.toF,q⟩) fun zz zz e=>e)
theorem CM{t:Expr}{b e:List DD}{a2:A8}{Φ:CK→AW→AA→Prop}(k:TR A env t ρ σ (qg A env b e ρ Φ)):
  Eg A env (.If t b e a2) ρ σ Φ:=fun s S=>wpAny_If (AT (k s S) (fun c s₁ a3=>E0 a3 fun a1 g t q=>by
   cases c<;>exact AT (q s₁ (S.step g t)) (fun fl s₂ a4=>HI a4 fun f m σ₂ r n a0 q=>⟨f,m,σ₂,r,n,t.toF.trans a0,q⟩) fun zz zz e=>e) fun zz zz e=>e)
theorem Be(k:EV A env e ρ σ (ug ρ Φ))
  (hi:autoParam (interactive env=false) aR)(hs:autoParam (Px e none n.line env=pure false) aR):Eg A env (.Expr e n) ρ σ Φ:=fun s S=>by
 show AR _ _ (GR _ _) _ _ _;rw[exec_Expr env e n hi hs];exact AE (EJ (AE (AT (k s S) (fun v s₁ a0=>BG a0 fun x m r g t q=>wpAny_dropValue ⟨.next,ρ,m,trivial,S.step g t,t.toF,q⟩) fun zz zz e=>e)))
abbrev put(ρ:AW)(x:Str)(v:AV):AW:=fun y=>if y=x then some v else ρ y
theorem yu(h:x∈fp env):fx env σ x≠none:=by unfold fx;rw[if_pos h];exact Ag _
theorem Ar.frame(ha:a∈fp env)(hs:E9 a s.heap s'.heap)(h1:s'.gens=s.gens)(m:s'.os=s.os):Ar (fx env σ) s (fx env σ) s':=by
 refine⟨fun b o q n=>⟨o,(hs.2 b ?_).trans q,.refl o⟩,fun b q=>.inl q,h1,m⟩;rintro rfl;exact yu ha n
theorem G.frame(g:G σ h)(m:σ a=none)(n2:hb.get? a=none)(hs:E9 a h h')(hd:∃o,h.get? a=some o∧∀items n,o.data≠.seq items n):G σ h'∧Bp h h':=by
 refine AI hd fun oa ha hc=>?_;have tk:Bp h h':=fun b o items n q c d=>(hs.2 b (by rintro rfl;obtain rfl:=An ((ha.symm.trans q));exact hc items n d)).trans q;refine⟨⟨fun b o q=>(hs.2 b (by rintro rfl;exact Au ((n2.symm.trans q)))).trans (g.base b o q),fun b x e=>⟨(g.own b x e).1,(g.own b x e).2.keeps (hs.2 b (by rintro rfl;exact Au ((m.symm.trans e)))) tk⟩⟩,tk⟩
theorem gi(hl:env.kindOf x=some .local)(q:Φ (put ρ x av) σ)(hk:autoParam (env.scope.kind=.function) aR):
  AP A env (fun v=>storeName env x v) av ρ σ Φ:=fun s v S r=>by
 refine AI S.l.ns fun m hn hm=>?_;refine Xb hl hn (fun h' a1 hs=>?_) (by rw[hk];rfl);refine O0 (id hn) fun o es ep ho hd zz=>?_;refine AL (S.g.frame S.nL.1 S.nL.2 hs ⟨o,ho,fun zz zz q=>by rw[hd]at q;cases q⟩) fun g' tk=>?_;refine⟨put ρ x av,σ,⟨g',⟨⟨_,a1,fun y n e k=>?_⟩,fun c hc=>?_,fun y n e k=>?_,S.l.apart,S.l.apart2⟩,S.nL,S.nC⟩,.frame (.head _) hs rfl rfl,q⟩
 ·unfold put at e;by_cases hy:y=x
  ·subst hy;rw[if_pos rfl]at e ⊢;obtain rfl:=An e;exact⟨v,rfl,r.mono tk⟩
  ·rw[if_neg hy]at e ⊢;refine AI (hm y n e k) fun v' e' r'=>?_;exact⟨v',e',r'.mono tk⟩
 ·refine Cp (S.l.cell c hc) fun v' oc a0 c1=>?_;exact⟨v',oc,(hs.2 c (by rintro rfl;exact S.l.apart2 hc)).trans a0,c1⟩
 ·unfold put at e;by_cases hy:y=x
  ·subst hy;exact(nomatch (An ((hl.symm.trans k))))
  ·rw[if_neg hy]at e;refine OC (S.l.cellv y n e k) fun c v' e1 oc a0 c2 r'=>?_;exact⟨c,v',e1,⟨oc,(hs.2 c (by rintro rfl;exact S.l.apart2 (J7 e1 k))).trans a0,c2⟩,r'.mono tk⟩
theorem Zcz(hl:env.kindOf x=some .cell)(hc:(env.cells.lookup x).isSome=true)(q:Φ (put ρ x av) σ)(hk:autoParam (env.scope.kind=.function) aR):
  AP A env (fun v=>storeName env x v) av ρ σ Φ:=fun s v S r=>by
 refine AX (Ll.mp hc) fun c hc=>?_;have n:=J7 hc hl;refine Cp (S.l.cell c n) fun v0 oc a5 c2=>?_;refine wpAny_storeName_cell hk hl hc ⟨oc,a5,c2⟩ fun h' a3 hs=>?_;refine AL (S.g.frame (S.nC c n).1 (S.nC c n).2 hs ⟨oc,a5,fun zz zz q=>!(nomatch ((c2.symm.trans q)))⟩) fun g' tk=>?_;refine AI S.l.ns fun m hn hm=>?_;have a7:env.locals≠c:=by rintro e;exact S.l.apart2 (e▸n)
 refine⟨put ρ x av,σ,⟨g',⟨⟨m,hn.sameBut hs a7,fun y a0 e k=>?_⟩,fun c' a4=>?_,fun y a0 e k=>?_,S.l.apart,S.l.apart2⟩,S.nL,S.nC⟩,.frame (.tail _ n) hs rfl rfl,q⟩
 ·unfold put at e;by_cases hy:y=x
  ·subst hy;exact(nomatch (An ((hl.symm.trans k))))
  ·rw[if_neg hy]at e;refine AI (hm y a0 e k) fun v' e' r'=>?_;exact⟨v',e',r'.mono tk⟩
 ·by_cases hq:c'=c
  ·subst hq;exact⟨_,a3⟩
  ·refine Cp (S.l.cell c' a4) fun v2 a8 a1 c3=>?_;exact⟨v2,a8,(hs.2 c' hq).trans a1,c3⟩
 ·unfold put at e;by_cases hy:y=x
  ·subst hy;obtain rfl:=An (((if_pos rfl).symm.trans e));exact⟨c,v,hc,a3,r.mono tk⟩
  ·rw[if_neg hy]at e;refine OC (S.l.cellv y a0 e k) fun c' v' e1 a6 a2 c4 r'=>?_;exact⟨c',v',e1,⟨a6,(hs.2 c' (by rintro rfl;exact hy (UC S.l.apart e1 k hc hl))).trans a2,c4⟩,r'.mono tk⟩
theorem NG(hl:env.kindOf x=some .local)(q:Φ (put ρ x m) σ)(n:autoParam (env.scope.kind=.function) aR):
  AP A env (assign (.Name x a0) env) m ρ σ Φ:=fun s v S r=>Py (gi hl q n s v S r)
theorem AP.cell(hl:env.kindOf x=some .cell)(hc:(env.cells.lookup x).isSome=true)(q:Φ (put ρ x m) σ)(n:autoParam (env.scope.kind=.function) aR):
  AP A env (assign (.Name x a0) env) m ρ σ Φ:=fun s v S r=>Py (Zcz hl hc q n s v S r)
theorem GN(hl:env.kindOf x=some .local)(q:Φ (put ρ x m) σ)(n:autoParam (env.scope.kind=.function) aR):
  AP A env (fun v=>bindName env x v) m ρ σ Φ:=fun s v S r=>wpAny_bindName (gi hl q n s v S r)
def Az(A:Ab)(env:Af)(ts:List (Value→Sem Unit))(xs:List AV)(ρ:AW)(σ:AA)(Φ:AW→AA→Prop):Prop:=
 ∀s vs,St env ρ σ s.heap→VRs s.heap xs vs→AR (Ae pg w) A (assignInOrder ts vs) (PN env σ s Φ) (fun m m=>False) s
theorem St.tupF(S:St env ρ σ s.heap)(t:Ar (fx env σ) s (fx env σ') s'):Bp s.heap s'.heap:=fun a o items n e c d=>by
 have n0:fx env σ a=none:=by
  unfold fx;rw[if_neg]
  ·exact S.g.notTup e c d
  ·intro hm;rcases A7.mp hm with rfl|hm
   ·refine Jy S.l.ns fun m o' es ep ho hd zz zz=>?_;obtain rfl:=An ((e.symm.trans ho));exact(nomatch ((d.symm.trans hd)))
   ·refine Cp (S.l.cell a hm) fun v o' ho hd=>?_;obtain rfl:=An ((e.symm.trans ho));exact(nomatch ((d.symm.trans hd)))
 refine AI (t.evo a o e n0) fun o' e' f=>?_;rw[e',f.of_ne (fun zz zz q=>!(nomatch ((d.symm.trans q))))]
theorem Da(q:Φ ρ σ):Az A env [] [] ρ σ Φ:=fun s vs S r=>by
 cases r;exact Ad ⟨ρ,σ,S,.refl _ _,q⟩
abbrev pL(A:Ab)(env:Af)(ts:List (Value→Sem Unit))(xs:List AV)(Φ:AW→AA→Prop):AW→AA→Prop:=fun ρ σ=>Az A env ts xs ρ σ Φ
abbrev tV(A:Ab)(env:Af)(t:Expr)(ρ:AW)(Φ:CK→AW→AA→Prop):AV→AA→Prop:=fun v σ=>AP A env (assign t env) v ρ σ (ut Φ)
theorem BY{t:Value→Sem Unit}{ts:List (Value→Sem Unit)}{x:AV}{xs:List AV}{Φ:AW→AA→Prop}(k:AP A env t x ρ σ (pL A env ts xs Φ)):
  Az A env (t::ts) (x::xs) ρ σ Φ:=fun s vs S r=>by
 cases r with
 |cons r1 r2=>
  change AR _ _ (CS _ (t _)>>=fun zz=>assignInOrder ts _) _ _ _;exact AE (CF (AT (k s _ S r1) (fun zz s₁ a5=>Je a5 fun a6 a3 a1 m q=>AT (q s₁ _ a1 (r2.mono (S.tupF m))) (fun zz s₂ a4=>Je a4 fun n σ₂ a0 a2 q=>⟨n,σ₂,a0,m.trans a2,q⟩) fun zz zz e=>e) fun zz zz e=>e))
inductive PS(σ:AA):AV→List AV→Prop
 |tup (xs:List AV):PS σ (.tup xs) xs
 |list {l:AB} {xs:List AV}:σ l=some (.list xs)→PS σ (.ref l) xs
theorem bc(hh:A.handled=none)(g:G σ s.heap)(q:PS σ x xs)(r:VR s.heap x v)(hn:n=xs.length)
  (k:∀h' vs,(∀b o,s.heap.get? b=some o→h'.get? b=some o)→VRs h' xs vs→Q vs {s with heap:=h'}):AR (Ae pg w) A (unpackItems v n none) Q (fun zz zz=>False) s:=by
 have up:∀h',g5 s.heap.objs.size s.heap h'→∀b o,s.heap.get? b=some o→h'.get? b=some o:=fun h' e b o q=>e b o (Bm (DJ q)) q;cases q with
 |tup=>
  refine Ja r fun a items m e rs=>?_;have hl:n=items.size:=by rw[hn,rs.length,Gs]
  subst hl;exact unpackItems_tuple hh ⟨_,e,rfl,m,rfl⟩ fun h' e=>k h' _ (up h' e) (rs.mono fun zz zz zz zz q zz zz=>up h' e _ _ q)
 |list hl=>
  obtain rfl:=VR.inv_ref r;refine Ci ((g.own _ _ hl).2) fun items m e rs=>?_;have hl:n=items.size:=by rw[hn,rs.length,Gs]
  subst hl;exact kun_itemsOf hh ⟨_,e,rfl,m,rfl⟩ fun h' e=>k h' _ (up h' e) (rs.mono fun zz zz zz zz q zz zz=>up h' e _ _ q)
theorem G.keeps(g:G σ h)(k:∀b o,h.get? b=some o→h'.get? b=some o):G σ h':=
 ⟨fun b o e=>k _ _ (g.base b o e),fun a x e=>⟨(g.own a x e).1,by
  refine AI ((g.own a x e).2.there) fun n q m=>?_;exact(g.own a x e).2.keeps ((k _ _ q).trans q.symm) fun a o m m e m m=>k _ _ e⟩⟩
theorem Ar.keeps(k:∀b o,s.heap.get? b=some o→s'.heap.get? b=some o)(n:s'.gens=s.gens)(m:s'.os=s.os):Ar σ s σ s':=⟨.of_keeps k,fun zz e=>.inl e,n,m⟩
theorem Ex{m:List Expr}{x1:Nat}{a4:A8}{x:AV}{xs:List AV}{Φ:AW→AA→Prop}(hh:A.handled=none)(q:PS σ x xs)(hn:xs.length=m.length)
  (k:Az A env ((Xc m env).map (·.2)) xs ρ σ Φ)(a0:autoParam ((Xc m env).findIdx? (·.1)=none) aR)(a2:autoParam ((Xc m env).length=m.length) aR):
  AP A env (assign (.Tuple m x1 a4) env) x ρ σ Φ:=fun s v S r=>by
 rw[arm_assign_Tuple];refine AE (EJ ?_);unfold unpack;rw[a0,a2];refine AE (CF (bc hh S.g q r hn.symm fun h' vs kk rs=>?_));have S':St env ρ σ h':=S.step (s':={s with heap:=h'}) (S.g.keeps kk) (.keeps kk rfl rfl);exact AT (k _ vs S' rs) (fun zz s₂ a5=>Je a5 fun n σ₂ a1 a3 q=>⟨n,σ₂,a1,((Ar.keeps (s':={s with heap:=h'}) kk rfl rfl).toF).trans a3,q⟩) fun zz zz e=>e
theorem BR(k:EV A env m ρ σ (tV A env t ρ Φ))
  (hs:autoParam (swapsWithSole [t] m a5.line env=pure false) aR)(hw:autoParam (swappedStores [t] m env=pure none) aR)(ha:autoParam ((Xc [t] env).map (·.2)=[assign t env]) aR):
  Eg A env (.Assign [t] m a5) ρ σ Φ:=fun s S=>
 wpAny_Assign_stores (AT (k s S) (fun v s₁ a6=>BG a6 fun x a4 r g n a2=>by
  rw[ha];exact AT (a2 s₁ v (S.step g n) r) (fun _ s₂ a7=>Je a7 fun a0 σ₂ a1 a3 q=>⟨.next,a0,σ₂,trivial,a1,n.toF.trans a3,q⟩) fun zz zz e=>e) fun zz zz e=>e) hs hw
theorem VRs.reverse:∀{xs:List AV}{vs:List Value},VRs h xs vs→VRs h xs.reverse vs.reverse
 :=fun q=>q.ind (P:=fun xs vs=>VRs _ xs.reverse vs.reverse) .nil fun a n m=>by rw[Xd,Xd];exact m.append (.one a)
theorem NI{a2:List Expr}{k0:Nat}{a3:A8}{a0:Expr}{a7:A8}{names:List Str}{Φ:CK→AW→AA→Prop}(hh:A.handled=none)
  (hw:swappedStores [.Tuple a2 k0 a3] a0 env=pure (some names))
  (k:EV A env a0 ρ σ fun v m=>∃xs,PS m v xs∧xs.length=names.length∧Az A env (names.reverse.map fun n=>fun v=>bindName env n v) xs.reverse ρ m fun a1 σ₂=>Φ .next a1 σ₂)
  (hs:autoParam (swapsWithSole [.Tuple a2 k0 a3] a0 a7.line env=pure false) aR):
  Eg A env (.Assign [.Tuple a2 k0 a3] a0 a7) ρ σ Φ:=fun s S=>
 Assign_Tuple_swapped (AT (k s S) (fun v s₁ a5=>BG a5 fun x m r g a4 a5=>B2 a5 fun xs hx hn a9=>bc hh g hx r hn.symm fun h' vs kk rs=>by
   have a8:=S.step g a4;have S':St env ρ m h':=a8.step (s':={s₁ with heap:=h'}) (g.keeps kk) (.keeps kk rfl rfl);exact AT (a9 _ _ S' rs.reverse) (fun _ s₂ b1=>Je b1 fun a1 σ₂ a6 b0 q=>⟨.next,a1,σ₂,trivial,a6,a4.toF.trans (((Ar.keeps (s':={s₁ with heap:=h'}) kk rfl rfl).toF).trans b0),q⟩) fun zz zz e=>e) fun zz zz e=>e) hs hw
abbrev KK(w:AD):Frag:=hd.heap_1 w.params
def MJ:AV→Prop
 |.fix v=>handedIn v=true
 |_=>True
theorem VR.handed(r:VR h x v)(q:MJ x):handedIn v=true:=by
 cases r<;>first|rfl|exact q
structure Dm(σ:AA)(x C dx:AB)(n:Nat)(fs:Str→Option AV):Prop where
 i:σ x=some (.inst C dx)
 d:σ dx=some (.ns n fs)
theorem Dm.at(I:Dm σ a C dx n fs)(g:G σ h):∃o es ep,h.get? dx=some o∧InstAt h a {cls:=.ref C,dict:=some dx,data:=.plain} C (some o)∧o.cls=.type "dict"∧o.data=.dict es ep∧Ia es∧es.size≤n∧
  ∀y,lookIn y o=some (Ib es y)∧(fs y=none→Ib es y=none)∧(∀x,fs y=some x→∃v,Ib es y=some v∧VR h x v):=by
 refine XD ((g.own _ _ I.d).2) fun o es ep m hc hd hk hs hf=>?_;refine⟨o,es,ep,m,⟨(g.own _ _ I.i).2,rfl,rfl,m⟩,hc,hd,hk,hs,fun y=>⟨?_,hf y⟩⟩;unfold lookIn Ib findBy;rw[hd];dsimp only;rw[←Array.find?_toList];cases q:es.toList.find? (·.key.isStr y)with
 |some e=>rfl
 |none=>
  have:es.toList.any (·.refKey)=false:=by
   rw[List.any_eq_false];intro e he;refine Bx (hk e (Zda.mp he)) fun n t q=>?_;simp[Zdb,q]
  rw[this];rfl
structure C7(w:AD)(C:AB)(name:Str):Prop where
 g:plainGet (KK w) C name=true
 d:hasDictIn (KK w) C=true
 f:Pz (KK w) (.ref C) name=some none
inductive zS(w:AD)(attr:Str)(Φ:AV→AA→Prop)(v:AV)(σ₁:AA):Prop
 |mk (x C dx:AB) (n:Nat) (fs:Str→Option AV) (av:AV) (e:v=.ref x) (I:Dm σ₁ x C dx n fs) (a:C7 w C attr) (f:fs attr=some av) (h:MJ av) (q:Φ av σ₁)
theorem Sw{a0:Str}(B:Ai)
  (k:EV A env m ρ σ (zS w a0 Φ))
  (he:autoParam (∀env,A0 (.Attribute m a0 a2) env=(do
   let o ←A0 m env
   Ck a2.atName
   let r ←CS [o] (Lm o a0 true)
   Ln m o r
   pure r)) aW):EV A env (.Attribute m a0 a2) ρ σ Φ:=fun s S=>
 Attribute_any_ (AT (k s S) (fun u s₁ ⟨v,a1,r,g,t,x,C,dx,n,fs,av,e1,I,a,e2,hh,q⟩=>by
  subst e1;obtain rfl:=VR.inv_ref r;refine Rz (I.at g) fun o es ep ho IA hc hd hk a3 hl=>?_;refine BN (hl a0) fun l1 l2 l3=>?_;refine AI (l3 av e2) fun vv e3 r=>?_;refine get_value (K:=KK w) (fun a o e=>g.base _ _ (B.K a o e)) IA (TM a.g).1 (findObj_own a.d a.f rfl (by rw[l1,e3])) (r.handed hh) ?_;exact⟨av,a1,r,g,t.trans (.toks _),q⟩) fun zz zz e=>e) (he _)
theorem bz{o:C0}{es:Array XX}{ep:Nat}(hd:o.data=.dict es ep)(hk:Ia es)(name:Str)(a0:Int)(tk:Tok)(v:Value):
  ∃m a1,(NZ name a0 (.str name tk) v o).data=.dict m a1∧(NZ name a0 (.str name tk) v o).cls=o.cls∧Ia m∧m.size≤es.size+1∧(Ib es name≠none→m.size=es.size)∧
   ∀y,Ib m y=if y=name then some v else Ib es y:=by
 obtain⟨c,d,dt,sl⟩:=o;dsimp only at hd;subst hd;rw[Obj.putName_eq];cases hi:es.findIdx? (·.key.isStr name)with
 |some i=>
  refine⟨es.modify i fun e=>{e with val:=v},ep,by simp only[Xe,hi],by simp only[Xe,hi],hk.modify _ _,by simp,fun zz=>by simp,fun x=>?_⟩;exact findBy_modify (fun n v=>v.isStr n) Value.isStr_inj es name x v i hi
 |none=>
  refine⟨es.push ⟨a0,.str name tk,v⟩,ep+1,by simp only[Xe,hi],by simp only[Xe,hi],hk.push _ _ _ _,by simp,fun q=>?_,fun x=>?_⟩
  ·exfalso;apply q;unfold Ib;rw[findBy_of_findIdx?,hi]
  ·exact findBy_push (fun n v=>v.isStr n) es name x _ _ v (fun y=>by
    show(name==y)=decide (y=name);by_cases h:y=name
    ·subst h;exact rfl
    ·have:¬name=y:=fun e=>h e.symm;simp[h,this]) hi
structure DE(w:AD)(C:AB)(name:Str):Prop where
 s:Pz (KK w) (.ref C) "__setattr__"=some (some (.builtin "object.__setattr__"))
 p:plainOver (KK w) C=true
 t:takerIn (KK w) C name=some none
 h:hasDictIn (KK w) C=true
def WR(σ:AA)(s:AQ)(A:Ab)(x:AB)(C:AB)(dx:AB)(n:Nat)(fs:Str→Option AV)(a0:Str)(av:AV)(v:Value)(Φ:AA→Prop):Prop:=∀(B:Ai)(g:G σ s.heap)(I:Dm σ x C dx n fs)(a:DE w C a0)(r:VR s.heap av v)(m:Nat)(hm:(m=n+1∨(m=n∧fs a0≠none)))(hz:n≤100)(q:Φ (upd σ dx (.ns m fun y=>if y=a0 then some av else fs y))),QX A (setAttr (.ref x) a0 v) σ s Φ
def ei:(((AA×AQ)×Ab)×((AB×AB)×AB))×(((Nat×(Str→Option AV))×Str)×((AV×Value)×(AA→Prop)))→Prop:=fun t=>WR t.1.1.1.1 t.1.1.1.2 t.1.1.2 t.1.2.1.1 t.1.2.1.2 t.1.2.2 t.2.1.1.1 t.2.1.1.2 t.2.1.2 t.2.2.1.1 t.2.2.1.2 t.2.2.2
def G2:=zE ei (((((fun _=>none),{}),{}),((0,0),0)),(((0,(fun _=>none)),Bk),((.none,Bk),(fun _=>True))))
def bM:=G2.1.1.1.1
def HV:=G2.1.1.1.2
def lS:=G2.1.1.2
def Qq:=G2.1.2.1.1
def zG:=G2.1.2.1.2
def LC:=G2.1.2.2
def eF:=G2.2.1.1.1
def UI:=G2.2.1.1.2
def Eo:=G2.2.1.2
def Uk:=G2.2.2.1.1
def Mk:=G2.2.2.1.2
def rp:=G2.2.2.2
theorem Za9:WR bM HV lS Qq zG LC eF UI Eo Uk Mk rp:=fun B g I a r m hm hz q=>by
 refine Rz (I.at g) fun o es ep ho IA hc hd hk n hl=>?_;have X:(KK w).In HV.heap:=fun a o e=>g.base _ _ (B.K a o e);refine set_plain (K:=KK w) X IA a.s (osa_open (s:={HV with toks:=HV.toks+1}) X IA a.p a.t fun b=>?_);refine AI (any_some a.h) fun cd a3 a5=>?_;obtain⟨hx,-,-,-⟩:=IA;refine AE (Ad (AE (AE (Xf hx (AE (TN X a3 _ _ _ _ (fun zz zz e=>e) ?_))))));rw[a5];refine Ad (a:=some LC) (AE (Ad (AE ?_)));unfold nsSet;refine AE (AE (KV (Ad (AE (g6 (AE (Xf ho ?_)))))));rw[hd];dsimp only;have c:(not (es.any (·.key.isStr Eo))&&es.any (·.refKey))=false:=by
  have:es.any (·.refKey)=false:=by
   rw[Array.any_eq_false'];intro e he;refine Bx (hk e he) fun eF t q=>?_;simp[Zdb,q]
  rw[this,Bool.and_false]
 rw[aRefKeyMayBeTheName_at,c];refine wpAny_updatePart ho ?_;refine Bx (bz hd hk Eo (Na w.params Eo) (HV.toks+1) Mk) fun a4 a2 a0=>Bs a0 fun q1 q2 q3 a1=>BN a1 fun q4 q5 q6=>?_;have hs:E9 LC HV.heap (HV.heap.update LC (NZ Eo (Na w.params Eo) (.str Eo (HV.toks+1)) Mk)):=Ei ..;have ge:(HV.heap.update LC (NZ Eo (Na w.params Eo) (.str Eo (HV.toks+1)) Mk)).get? LC=some (NZ Eo (Na w.params Eo) (.str Eo (HV.toks+1)) Mk o):=
  GS _ ho (Xg q1)
 refine AE (wpAny_lookBehind ge (by rw[q1];exact pastItsLine_dict (by rw[CG];exact ln (AK (AK q4 (CD n)) (CD hz)) rfl)) (Ad ?_));refine⟨upd bM LC (.ns m fun y=>if y=Eo then some Uk else UI y),g.set (y:=.ns m fun y=>if y=Eo then some Uk else UI y) I.d hs (fun tk=>?_),.set I.d hs rfl rfl,q⟩;refine⟨_,a4,a2,ge,q2.trans hc,q1,q3,?_,fun y=>?_⟩
 ·rcases hm with rfl|⟨rfl,e⟩
  ·exact AK q4 (CD n)
  ·refine BN (hl Eo) fun l1 l2 l3=>?_;refine AX (Ee.mp e) fun y hy=>?_;refine AI (l3 y hy) fun v' e' zz=>?_;rw[q5 (by rw[e'];exact Ag _)];exact n
 ·rw[q6];refine BN (hl y) fun zz l2 l3=>?_;by_cases hy:y=Eo
  ·simp only[if_pos hy];exact⟨fun e=>(nomatch e),fun Qq e=>⟨Mk,rfl,An e▸r.mono tk⟩⟩
  ·simp only[if_neg hy];refine⟨l2,fun Qq e=>?_⟩;refine AI (l3 Qq e) fun v' e' r'=>?_;exact⟨v',e',r'.mono tk⟩
theorem qn{σ s A x C dx n fs m av v Φ}:WR σ s A x C dx n fs m av v Φ:=@zF _ ei _ @Za9 ((((σ,s),A),((x,C),dx)),(((n,fs),m),((av,v),Φ)))
inductive Qx(w:AD)(attr:Str)(av:AV)(ρ:AW)(Φ:AW→AA→Prop)(v:AV)(σ₁:AA):Prop
 |mk (x C dx:AB) (n:Nat) (fs:Str→Option AV) (m:Nat) (e:v=.ref x) (I:Dm σ₁ x C dx n fs) (a:DE w C attr) (hm:m=n+1∨(m=n∧fs attr≠none)) (hz:n≤100) (q:Φ ρ (upd σ₁ dx (.ns m fun y=>if y=attr then some av else fs y)))
def Zct{m a1 a2 a3 n a5 a6}{c:Prop}:=@Qx.casesOn m a1 a2 a3 n a5 a6 (fun zz=>c)
theorem Pm{a0:Str}(B:Ai)
  (k:EV A env o ρ σ (Qx w a0 av ρ Φ)):
  AP A env (assign (.Attribute o a0 a3) env) av ρ σ Φ:=fun s v S r=>by
 rw[show assign (.Attribute o a0 a3) env v=(do
  let ov ←CS [v] (A0 o env)
  Ck a3.atName
  CS [v,ov] (setAttr ov a0 v)
  Lk [v,ov] [])from rfl]
 refine AE (CF (AT (k s S) (fun u s₁ a2=>BG a2 fun z a7 a5 g t a8=>Zct a8 fun x C dx n fs m e1 I a hm hz q=>?_) fun zz zz e=>e));subst e1;obtain rfl:=VR.inv_ref a5;refine AE (EJ (AE (CF (AT (qn (Φ:=fun σ'=>Φ ρ σ') B g I a (r.mono (t.evo.tup S.g)) m hm hz q) (fun zz s₂ a2=>Sz a2 fun σ₂ a6 a1 q=>?_) fun zz zz e=>e))));have a4:=S.step g t;exact fun Γ p zz=>by rw[Sem.wp_release];exact⟨ρ,σ₂,a4.step a6 a1,(t.trans a1).toF,q⟩
structure Ak(w:AD)(f:AB)(fd:Aj):Prop where
 at_:∃od osl,(KK w).lookup f=some ⟨.type "function",od,.func fd,osl⟩
 code:codeIn (KK w) fd.code fd.qualname=true
theorem Ak.obj(F:Ak w f fd)(B:Ai)(g:∀b o,hb.get? b=some o→h.get? b=some o):∃o,h.get? f=some o∧o.data=.func fd∧o.cls=.type "function":=by
 refine Bx F.at_ fun n m e=>?_;exact⟨_,g _ _ (B.K _ _ e),rfl,rfl⟩
theorem GX(hp:l.any (·.1)=false)
  (h:AR M A (spliced l) (fun vs s'=>Q ⟨vs,[]⟩ s') E s):AR M A (evalArgs f true l []) Q E s:=by
 unfold evalArgs;cases l with
 |nil=>
  show AR M A (spliced []>>=_) Q E s;exact AE (AT h (fun vs s' h'=>AE (Ad (CF (AE (Ad (AE (Ad (Ad h')))))))) fun m m x=>x)
 |cons p rest=>
  obtain⟨b,x⟩:=p;cases b with
  |true=>simp at hp
  |false=>
   show AR M A (spliced ((false,x)::rest)>>=_) Q E s;exact AE (AT h (fun vs s' h'=>AE (Ad (CF (AE (Ad (AE (Ad (Ad h')))))))) fun m m x=>x)
def WL:Expr→Bool
 |.Starred ..=>false
 |_=>true
def CJ(args:List Expr):Bool:=args.all WL
theorem sX{e:Expr}{r:List Expr}{env:Af}(h:WL e=true):(BZ (e::r) env).any (·.1)=(BZ r env).any (·.1):=by
 cases e<;>first|rfl|exact absurd h Gq
theorem yB(env:Af):∀{args:List Expr},CJ args=true→(BZ args env).any (·.1)=false:=by
 intro args
 induction args with
 |nil=>
  intro _;exact rfl
 |cons e r m=>
  intro h;have h':WL e=true∧CJ r=true:=by
   unfold CJ at h ⊢;rw[List.all_cons,Fg]at h;exact h
  have n:=m h'.2;exact(sX h'.1).trans n
theorem Er(h:CJ args=true):(Df m (BZ args env)).any (·.1)=false:=by
 have:=yB env h;unfold Df;rw[List.any_map];exact this
theorem bh{f:AB}{fd:Aj}{first:List Value}{firstA:List AV}{args:List Expr}{n:A8}{Φ:AV→AA→Prop}(B:Ai)(F:Ak w f fd)(S:St env ρ σ s.heap)(r:VRs s.heap firstA first)
  (k:AC A env n args ρ σ fun xs m=>AF A (.ref f) (firstA++xs) m Φ)(hp:CJ args=true):ER A (EK n (.ref f) first (Df n (BZ args env)) []) σ s Φ:=by
 refine B2 (F.obj B S.g.base) fun o ho hd hc=>?_;refine g7 (o:=o) (fd:=fd) (GX (Er hp) ?_);refine AT (k s S) (fun vs s₁ a5=>GM a5 fun xs m a1 g t q=>⟨⟨?_,hd⟩,?_⟩) fun zz zz e=>e
 ·refine Bx F.at_ fun od a6 e=>?_;have q1:=S.g.base _ _ (B.K _ _ e);have q2:=g.base _ _ (B.K _ _ e);rw[ho]at q1;rw[q2,q1]
 ·exact AT (q s₁ _ g ((r.mono (t.evo.tup S.g)).append a1)) (fun v s₂ a4=>BG a4 fun av σ₂ a2 a3 a0 q=>⟨av,σ₂,a2,a3,t.trans a0,q⟩) fun zz zz e=>e
theorem Za{id:String}{first:List Value}{firstA:List AV}{args:List Expr}{n:A8}{Φ:AV→AA→Prop}(S:St env ρ σ s.heap)(r:VRs s.heap firstA first)
  (k:AC A env n args ρ σ fun xs m=>AF A (.builtin id) (firstA++xs) m Φ)(hp:CJ args=true):ER A (EK n (.builtin id) first (Df n (BZ args env)) []) σ s Φ:=by
 refine g8 (Er hp) (GX (Er hp) ?_);exact AT (k s S) (fun vs s₁ a4=>GM a4 fun xs m a1 g t q=>AT (q s₁ _ g ((r.mono (t.evo.tup S.g)).append a1)) (fun v s₂ a5=>BG a5 fun av σ₂ a2 a3 a0 q=>⟨av,σ₂,a2,a3,t.trans a0,q⟩) fun zz zz e=>e) fun zz zz e=>e
theorem mI(S:St env ρ σ s.heap)
  (k:AC A env n args ρ σ fun xs m=>AF A (.type T) xs m Φ)(hp:CJ args=true):ER A (EK n (.type T) [] (Df n (BZ args env)) []) σ s Φ:=by
 refine hF (Er hp) (GX (Er hp) ?_);exact AT (k s S) (fun vs s₁ a4=>GM a4 fun xs m a1 g t q=>AT (q s₁ _ g a1) (fun v s₂ a5=>BG a5 fun av σ₂ a2 a3 a0 q=>⟨av,σ₂,a2,a3,t.trans a0,q⟩) fun zz zz e=>e) fun zz zz e=>e
theorem yT(B:Ai)(hk:Nb (KK w) (.ref C)=true)(S:St env ρ σ s.heap)
  (k:AC A env n args ρ σ fun xs m=>AF A (.ref C) xs m Φ)(hp:CJ args=true):ER A (EK n (.ref C) [] (Df n (BZ args env)) []) σ s Φ:=by
 refine callWith_of (P:=fun h=>(KK w).In h) (by rw[Er hp];rfl) (keeps_K hk) (GX (Er hp) ?_);exact AT (k s S) (fun vs s₁ a4=>GM a4 fun xs m a1 g t q=>⟨fun a o e=>g.base _ _ (B.K a o e),
  AT (q s₁ _ g a1) (fun v s₂ a5=>BG a5 fun av σ₂ a2 a3 a0 q=>⟨av,σ₂,a2,a3,t.trans a0,q⟩) fun zz zz e=>e⟩) fun zz zz e=>e
inductive OL(w:AD):AV→Value→Prop
 |fn {f:AB} {fd:Aj}:Ak w f fd→OL w (.fix (.ref f)) (.ref f)
 |bi (id:String):OL w (.fix (.builtin id)) (.builtin id)
 |ty (T:String):OL w (.fix (.type T)) (.type T)
 |cl {C:AB}:Nb (KK w) (.ref C)=true→OL w (.fix (.ref C)) (.ref C)
inductive R1(A:Ab)(env:Af)(pos:A8)(args:List Expr)(ρ:AW)(Φ:AV→AA→Prop)(fv:AV)(σ₁:AA):Prop
 |mk (f:Value) (c:OL w fv f) (q:AC A env pos args ρ σ₁ fun xs σ₂=>AF A f xs σ₂ Φ)
def Zcj{m a1 a2 a3 n a5 a6 a7}{c:Prop}:=@R1.casesOn m a1 a2 a3 n a5 a6 a7 (fun _=>c)
theorem LW{id:Str}(B:Ai)
  (k:EV A env (.Name id p) ρ σ (R1 A env a0 args ρ Φ))(hp:autoParam (CJ args=true) aR):
  EV A env (.Call (.Name id p) args [] a0) ρ σ Φ:=fun s S=>
 TO (AT (k s S) (fun u s₁ a4=>BG a4 fun fv n r g t a6=>Zcj a6 fun f c q=>by
  have m:=S.step g t;have fin:ER A (EK a0 f [] (Df a0 (BZ args env)) []) n s₁ Φ:=by
   cases c with
   |fn F=>exact bh (firstA:=[]) B F m .nil q hp
   |bi id=>exact Za (firstA:=[]) m .nil q hp
   |ty T=>exact mI m q hp
   |cl hk=>exact yT B hk m q hp
  have hu:u=f:=by cases c<;>exact r.inv_fix
  subst hu;exact AT fin (fun v s₂ a5=>BG a5 fun av σ₂ a2 a3 a1 q=>⟨av,σ₂,a2,a3,t.trans a1,q⟩) fun zz zz e=>e) fun zz zz e=>e)
structure B1(w:AD)(C:AB)(name:Str)(f:AB):Prop where
 g:plainGet (KK w) C name=true
 f:Pz (KK w) (.ref C) name=some (some (.ref f))
inductive j1(A:Ab)(env:Af)(pos:A8)(name:Str)(args:List Expr)(ρ:AW)(Φ:AV→AA→Prop)(ov:AV)(σ₁:AA):Prop
 |mk (x C dx:AB) (n:Nat) (fs:Str→Option AV) (f:AB) (fd:Aj) (e:ov=.ref x) (I:Dm σ₁ x C dx n fs) (hn:fs name=none) (M:B1 w C name f) (F:Ak w f fd) (q:AC A env pos args ρ σ₁ fun xs σ₂=>AF A (.ref f) (.ref x::xs) σ₂ Φ)
theorem W7(B:Ai)
  (k:EV A env o ρ σ (j1 A env m name args ρ Φ))(hp:autoParam (CJ args=true) aR)
  (he:autoParam (A0 (.Call (.Attribute o name a0) args [] m) env=(do
   let ov ←A0 o env
   Ck a0.atName
   let(f,first) ←CS [ov] (GT ov name pl)
   EK m f first (Df m (BZ args env)) (Hv m (Hw [] env)))) aR):
  EV A env (.Call (.Attribute o name a0) args [] m) ρ σ Φ:=fun s S=>
 Xh (kws:=[]) (pl:=pl) (AT (k s S) (fun u s₁ ⟨v,a4,r,g,t,x,C,dx,n,fs,f,fd,e1,I,hn,M,F,q⟩=>by
  subst e1;obtain rfl:=VR.inv_ref r;refine Rz (I.at g) fun o es ep ho IA hc hd hk a6 hl=>?_;refine BN (hl name) fun l1 l2 l3=>?_;have X:(KK w).In s₁.heap:=fun a o e=>g.base _ _ (B.K a o e);refine method_fn (K:=KK w) X IA (TM M.g).1 (TM M.g).2 M.f ?_ (by unfold shadowIn;simp[l1,l2 hn]) ?_
  ·refine Bx F.at_ fun od a7 e=>?_;show((KK w).lookup f).map (·.cls)=_;rw[e];rfl
  ·exact AT (bh (firstA:=[.ref x]) B F (S.step g t) (.one (.ref x)) q hp) (fun v s₂ a5=>BG a5 fun av σ₂ a2 a3 a1 q=>⟨av,σ₂,a2,a3,t.trans a1,q⟩) fun zz zz e=>e) fun zz zz e=>e) he
inductive uY(A:Ab)(env:Af)(pos:A8)(T id:String)(args:List Expr)(ρ:AW)(Φ:AV→AA→Prop)(ov:AV)(σ₁:AA):Prop
 |mk (h:∀(s:AQ) u,G σ₁ s.heap→VR s.heap ov u→s.TypeIs u T∧∀a,u=.ref a→∃o,s.heap.get? a=some o∧o.dict=none) (q:AC A env pos args ρ σ₁ fun xs σ₂=>AF A (.builtin id) (ov::xs) σ₂ Φ)
theorem Sq{T id:String}(pa:PlainAttrs T)(a0:Slot T name id)(a5:Nc (.builtin id)=pure (.type "method_descriptor"))
  (k:EV A env o ρ σ (uY A env m T id args ρ Φ))(hp:autoParam (CJ args=true) aR)
  (he:autoParam (A0 (.Call (.Attribute o name n) args [] m) env=(do
   let ov ←A0 o env
   Ck n.atName
   let(f,first) ←CS [ov] (GT ov name pl)
   EK m f first (Df m (BZ args env)) (Hv m (Hw [] env)))) aR):
  EV A env (.Call (.Attribute o name n) args [] m) ρ σ Φ:=fun s S=>
 Xh (kws:=[]) (pl:=pl) (AT (k s S) (fun u s₁ ⟨v,a4,r,g,t,hT,q⟩=>by
  refine AL (hT s₁ u g r) fun h1 h2=>?_;refine getMethod_builtin h1 pa a0 a5 h2 ?_;exact AT (Za (firstA:=[v]) (S.step g t) (.one r) q hp) (fun v s₂ ⟨av,σ₂,a2,a3,a1,q⟩=>⟨av,σ₂,a2,a3,t.trans a1,q⟩) fun zz zz e=>e) fun zz zz e=>e) he
def B4:List Str→List AV→AW
 |n::ns,x::xs=>put (B4 ns xs) n x
 |_,_=>fun m=>none
theorem vy:∀{ns:List Str}{vs:List Value}{y:Str},y∉ns→(ns.zip vs).reverse.lookup y=none:=fun{ns vs y} h=>by
 rw[List.lookup_eq_none_iff];intro p hp;rw[List.mem_reverse]at hp;have:=(QA hp).1;rw[bne_iff_ne];rintro rfl;exact h this
theorem UZ(r:VRs h xs vs):ns.Nodup→B4 ns xs y=some m→∃v,(ns.zip vs).reverse.lookup y=some v∧VR h m v:=
 r.ind (P:=fun xs vs=>∀ns:List Str,ns.Nodup→B4 ns xs y=some m→∃v,(ns.zip vs).reverse.lookup y=some v∧VR h m v) (fun ns zz e=>by
  cases ns<;>exact Au e) (fun{x v xs vs} r _ ih ns hn e=>by
  cases ns with
  |nil=>exact Au e
  |cons n ns=>
   rw[FM]at hn;change(if y=n then some _ else B4 ns _ y)=some m at e;rw[Xi,Xd,List.lookup_append];by_cases hy:y=n
   ·subst hy;obtain rfl:=An (((if_pos rfl).symm.trans e));rw[vy hn.1];exact⟨v,by simp,r⟩
   ·rw[if_neg hy]at e;refine AI (ih ns hn.2 e) fun v' e' r'=>?_;exact⟨v',by rw[e'];rfl,r'⟩) ns
theorem Ar.leave{s₁:AQ}(k:∀b o,s.heap.get? b=some o→s₁.heap.get? b=some o)(hf:∀a∈fp env,s.heap.get? a=none)(g1:s₁.gens=s.gens)(o1:s₁.os=s.os)(x:Ar (fx env σ) s₁ (fx env σ') s'):Ar σ s σ' s':=by
 refine⟨fun b o e n=>x.evo b o (k b o e) ?_,fun b q=>?_,x.gens.trans g1,x.os.trans o1⟩
 ·unfold fx;rw[if_neg (fun m=>by rw[hf b m]at e;cases e)];exact n
 ·have:fx env σ' b≠none:=by unfold fx;split;exact Ag _;exact q
  rcases x.dom b this with d|d
  ·unfold fx at d;split at d
   ·rename_i m;exact .inr (hf b m)
   ·exact .inl d
  ·refine .inr ?_;cases e:s.heap.get? b with
   |none=>rfl
   |some o=>exact Bf (((k b o e).symm.trans d))
def backs(Φ:AV→AA→Prop):CK→AW→AA→Prop:=fun f m σ'=>match f with
 |.ret v=>Φ v σ'
 |.next=>Φ .none σ'
 |_=>False
def qh:Ic→Value
 |.ret v=>v
 |_=>.none
theorem V1{Φ:AV→AA→Prop}{f:CK}{fl:Ic}{σ':AA}(r:ZW h f fl)(q:backs Φ f ρ σ'):∃m,VR h m (qh fl)∧Φ m σ':=by
 cases f<;>cases fl<;>first|exact r.elim|exact q.elim|exact⟨_,.none,q⟩|exact⟨_,r,q⟩
set_option backward.match.sparseCases true in
def Du(A:Ab)(f:Value)(args:List AV)(σ:AA)(Φ:AV→AA→Prop):Prop:=
 ∀s vs,G σ s.heap→VRs s.heap args vs→FA (Ae pg w) A (.call f ⟨vs,[]⟩) (fun r s'=>match r with
  |.ok (.ret v)=>PV σ s Φ v s'
  |.ok _=>False
  |.error _=>False) s
theorem AF.of(x:Du A f args σ Φ):AF A f args σ Φ:=fun s vs g r=>KW (x s vs g r)
def IU(fd:Aj)(names:List Str):Bool:=decide names.Nodup&&((fd.scope.names.all fun x=>x.2 != .cell)&&((names.all fun x=>fd.scope.names.lookup x==some .local)&&(not (fd.scope.isCoroutine)&&(not (fd.scope.isGenerator)&&fd.scope.kind== .function))))
theorem IU.p(h:IU fd names=true):names.Nodup∧(fd.scope.names.all fun x=>x.2 != .cell)=true∧(names.all fun x=>fd.scope.names.lookup x==some .local)=true∧fd.scope.isCoroutine=false∧fd.scope.isGenerator=false∧fd.scope.kind=.function:=by
 unfold IU at h;simp only[Fg,decide_eq_true_eq,Bool.not_eq_true',beq_iff_eq]at h;exact h
theorem Du.def{f:AB}{fd:Aj}{body:List DD}{names:List Str}{xs:List AV}{n:Nat}{Φ:AV→AA→Prop}(B:Ai)(F:Ak w f fd)(R:Ah A (n+1))
  (a7:fd.body=.stmts body)
  (k:∀L,EX (A.deeper (BA fd L f)) (BA fd L f) body (B4 names xs) σ (backs Φ))
  (a6:∀vs:List Value,vs.length=names.length→HK fd ⟨vs,[]⟩=pure (names.zip vs))(b1:xs.length=names.length)(ok:IU fd names=true):
  Du A (.ref f) xs σ Φ:=fun s vs g r=>by
 obtain⟨c3,a4,b2,b7,a9,hk⟩:=IU.p ok;refine B2 (F.obj B g.base) fun o ho hd hc=>?_;refine EY B.T fun p loose mg mb T=>?_;have a5:vs.length=names.length:=by rw[←r.length,b1]
 have a0:∀x∈fd.scope.names,x.2≠.cell:=fun x hx=>by have:=Fe.mp a4 x hx;simpa using this
 refine(codeAny_call_def (fd:=fd) (body:=body) (binds:=names.zip vs) R.d ho hd (T.nolimit.keeps g.base) (TP (K:=KK w) (fun a o e=>g.base _ _ (B.K a o e)) F.code) a7 (.of_eq (a6 vs a5)) a0
  (fun x hx=>?_) (fun a3 c2 a1=>?_) b7 a9 hk)
 ·have:=Fe.mp b2 x.1 (QA hx).1;simpa using this
 ·have S:St (BA fd s.heap.objs.size f) (B4 names xs) σ a3:=by
   have a2:oc (BA fd s.heap.objs.size f)=[]:=by
    unfold oc;rw[hG.mpr];rfl;intro p hp;simp only[beq_iff_eq];intro e;exact a0 _ (mem_of_lookup e) rfl
   refine⟨g.keeps a1,⟨⟨_,c2,fun x av e zz=>?_⟩,fun c hc=>(by rw[a2]at hc;cases hc),fun x av e q=>?_,(by rw[a2];exact .nil),(by rw[a2];exact fun q=>nomatch q)⟩,g.fresh,fun c hc=>(by rw[a2]at hc;cases hc)⟩
   ·refine AI (UZ r c3 e) fun v e' r'=>?_;exact⟨v,e',r'.mono fun zz zz zz zz q zz zz=>a1 _ _ q⟩
   ·exact absurd rfl (a0 _ (mem_of_lookup q))
  refine AT (k s.heap.objs.size _ S) (fun fl s₂ b6=>HI b6 fun af c1 σ₂ b5 a8 b3 q=>?_) fun zz zz e=>e.elim;refine AI (V1 b5 q) fun av b0 b4=>?_;refine⟨av,σ₂,(by cases fl<;>exact b0),a8.g,.leave (env:=BA fd s.heap.objs.size f) (s₁:={s with heap:=a3,toks:=s.toks+(names.zip vs).length}) a1 (fun a m=>?_) rfl rfl b3,b4⟩;rcases A7.mp m with rfl|m
  ·exact GK _
  ·exfalso;refine AI (BD.mp m) fun p hp zz=>?_;have:=(Dd.mp hp).2;simp only[beq_iff_eq]at this;exact a0 _ (mem_of_lookup this) rfl
theorem AF.def{f:AB}{fd:Aj}{body:List DD}{names:List Str}{xs:List AV}{n:Nat}{Φ:AV→AA→Prop}(B:Ai)(F:Ak w f fd)(R:Ah A (n+1))
  (a0:fd.body=.stmts body)
  (k:∀L,EX (A.deeper (BA fd L f)) (BA fd L f) body (B4 names xs) σ (backs Φ))
  (m:∀vs:List Value,vs.length=names.length→HK fd ⟨vs,[]⟩=pure (names.zip vs))(a1:xs.length=names.length)(ok:IU fd names=true):
  AF A (.ref f) xs σ Φ:=.of (.def B F R a0 k m a1 ok)
theorem ti(kind:Str→Option FN):∀{bs:List (Str×Value)}{m:Str→Option Value}{y:Str},y∉bs.map (·.1)→bindL kind bs m y=m y:=by
 intro bs
 induction bs with
 |nil=>
  intro _ _ _;exact rfl
 |cons p_ r a0=>
  intro m y h;obtain⟨n,v⟩:=p_;rw[CB,A7,not_or]at h;unfold bindL;rw[a0 h.2];split
  ·exact if_neg h.1
  ·rfl
theorem sH(kind:Str→Option FN):∀{bs:List (Str×Value)}{m:Str→Option Value}{y:Str},y∉bs.map (·.1)→bindC kind bs m y=m y:=by
 intro bs
 induction bs with
 |nil=>
  intro _ _ _;exact rfl
 |cons p_ r a0=>
  intro m y h;obtain⟨n,v⟩:=p_;rw[CB,A7,not_or]at h;unfold bindC;rw[a0 h.2];split
  ·rfl
  ·exact if_neg h.1
theorem cg{ns:List Str}{vs:List Value}(h:y∉ns):y∉(ns.zip vs).map (·.1):=fun q=>by
 refine AI (BD.mp q) fun p hp m=>?_;subst m;exact h (QA hp).1
theorem rl(kind:Str→Option FN)(r:VRs h xs vs):ns.Nodup→B4 ns xs y=some av→kind y=some .local→∃v,bindL kind (ns.zip vs) m y=some v∧VR h av v:=
 r.ind (P:=fun xs vs=>∀(ns:List Str)(m:Str→Option Value),ns.Nodup→B4 ns xs y=some av→kind y=some .local→∃v,bindL kind (ns.zip vs) m y=some v∧VR h av v) (fun ns m zz e zz=>by
  cases ns<;>exact Au e) (fun{x v xs vs} r _ ih ns m hn e hk=>by
  cases ns with
  |nil=>exact Au e
  |cons n ns=>
   rw[FM]at hn;change(if y=n then some _ else B4 ns _ y)=some av at e;rw[Xi];unfold bindL;by_cases hy:y=n
   ·subst hy;obtain rfl:=An (((if_pos rfl).symm.trans e));rw[ti kind (cg hn.1),if_pos hk];exact⟨v,if_pos rfl,r⟩
   ·rw[if_neg hy]at e;exact ih ns _ hn.2 e hk) ns m
theorem lC(kind:Str→Option FN)(r:VRs h xs vs):ns.Nodup→B4 ns xs y=some av→kind y=some .cell→∃v,bindC kind (ns.zip vs) m y=some v∧VR h av v:=
 r.ind (P:=fun xs vs=>∀(ns:List Str)(m:Str→Option Value),ns.Nodup→B4 ns xs y=some av→kind y=some .cell→∃v,bindC kind (ns.zip vs) m y=some v∧VR h av v) (fun ns m zz e zz=>by
  cases ns<;>exact Au e) (fun{x v xs vs} r _ ih ns m hn e hk=>by
  cases ns with
  |nil=>exact Au e
  |cons n ns=>
   rw[FM]at hn;change(if y=n then some _ else B4 ns _ y)=some av at e;rw[Xi];unfold bindC;by_cases hy:y=n
   ·subst hy;obtain rfl:=An (((if_pos rfl).symm.trans e));rw[sH kind (cg hn.1),if_neg (by rw[hk];decide)];exact⟨v,if_pos rfl,r⟩
   ·rw[if_neg hy]at e;exact ih ns _ hn.2 e hk) ns m
def Vc(scope:C1):Bool:=decide (((HL 0 scope.names []).map (·.1)).Nodup)&&scope.names.all fun x=>x.2 != .cell||((HL 0 scope.names []).lookup x.1).isSome
theorem eM:∀(names:List (Str×FN))(n m:Nat)(a1 a0:List (Str×AB)),a1.map (·.1)=a0.map (·.1)→(HL n names a1).map (·.1)=(HL m names a0).map (·.1):=by
 intro names
 induction names with
 |nil=>
  intro _ _ _ _ h;exact h
 |cons p_ r a2=>
  intro n m a1 a0 h;obtain⟨x,k⟩:=p_;unfold HL;split
  ·exact a2 _ _ _ _ (by simp[h])
  ·exact a2 _ _ _ _ h
theorem jK:∀{l:List (Str×AB)}{x:Str},(l.lookup x).isSome=(l.map (·.1)).contains x:=by
 intro l
 induction l with
 |nil=>
  intro _;exact rfl
 |cons p_ r m=>
  intro x;obtain⟨n,a⟩:=p_;rw[QB,CB,List.contains_cons];cases q:x==n<;>simp[m]
theorem wc{scope:C1}(e:((HL 0 scope.names []).lookup x).isSome=true):((HL n scope.names []).lookup x).isSome=true:=by
 rw[jK]at e ⊢
 rwa [eM scope.names n 0 [] [] rfl]
theorem Vj{l:List (Str×AB)}{x:Str}{a:AB}:(l.map (·.1)).Nodup→(x,a)∈l→l.lookup x=some a:=by
 induction l with
 |nil=>exact fun zz h=>nomatch h
 |cons p r ih=>
  intro n hm;rw[CB,FM]at n;rw[QB];rcases A7.mp hm with e|m
  ·rw[←e,show(x==(x,a).1)=true from beq_self_eq_true _]
  ·rw[show(x==p.1)=false from beq_eq_false_iff_ne.mpr fun q=>n.1 (q▸BD.mpr ⟨(x,a),m,rfl⟩)];exact ih n.2 m
def OJ(fd:Aj)(names:List Str):Bool:=decide names.Nodup&&(fd.closure.isEmpty&&(Vc fd.scope&&((names.all fun x=>fd.scope.names.lookup x==some .local||fd.scope.names.lookup x==some .cell)&&(not (fd.scope.isCoroutine)&&(not (fd.scope.isGenerator)&&fd.scope.kind== .function)))))
theorem OJ.p(h:OJ fd names=true):names.Nodup∧fd.closure=[]∧Vc fd.scope=true∧(names.all fun x=>fd.scope.names.lookup x==some .local||fd.scope.names.lookup x==some .cell)=true∧fd.scope.isCoroutine=false∧fd.scope.isGenerator=false∧fd.scope.kind=.function:=by
 unfold OJ at h;simp only[Fg,decide_eq_true_eq,Bool.not_eq_true',beq_iff_eq,List.isEmpty_iff]at h;exact h
theorem GQ{f:AB}{fd:Aj}{body:List DD}{names:List Str}{xs:List AV}{n:Nat}{Φ:AV→AA→Prop}(B:Ai)(F:Ak w f fd)(R:Ah A (n+1))
  (a6:fd.body=.stmts body)
  (k:∀L,EX (A.deeper (Gu fd L f)) (Gu fd L f) body (B4 names xs) σ (backs Φ))
  (a7:∀vs:List Value,vs.length=names.length→HK fd ⟨vs,[]⟩=pure (names.zip vs))(c2:xs.length=names.length)(ok:OJ fd names=true):
  AF A (.ref f) xs σ Φ:=fun s vs g r=>by
 obtain⟨a9,b4,a1,b1,c8,b0,hk⟩:=OJ.p ok;refine B2 (F.obj B g.base) fun o ho hd hc=>?_;refine EY B.T fun p loose mg mb T=>?_;have a5:vs.length=names.length:=by rw[←r.length,c2]
 unfold Vc at a1;rw[Fg,decide_eq_true_eq]at a1;refine AL a1 fun c4 c1=>?_;have a4:∀m,((HL m fd.scope.names []).map (·.1)).Nodup:=fun m=>by rw[eM fd.scope.names m 0 [] [] rfl];exact c4
 have a3:∀m x,fd.scope.names.lookup x=some .cell→((HL m fd.scope.names []).lookup x).isSome=true:=fun m x e=>by
  have:=Fe.mp c1 _ (mem_of_lookup e);exact wc (by simpa using this)
 refine KW (codeAny_call_cells (fd:=fd) (body:=body) (binds:=names.zip vs) R.d ho hd (T.nolimit.keeps g.base) (TP (K:=KK w) (fun a o e=>g.base _ _ (B.K a o e)) F.code) a6 (a7 vs a5) b4
  (fun x hx=>?_) (fun s₁ x=>?_) c8 b0 hk)
 ·have:=Fe.mp b1 x.1 (QA hx).1;rcases Bool.or_eq_true_iff.mp this with q|q
  ·exact .inl (by simpa using q)
  ·have q:fd.scope.names.lookup x.1=some .cell:=by simpa using q
   exact .inr ⟨q,a3 _ _ q⟩
 ·have a2:=x.toInCall.keep;refine Bx x.toInCall.same fun h₁ tk c5=>?_;subst c5;have a0:∀c∈oc (Gu fd s.heap.objs.size f),s.heap.objs.size<c∧∃y,(Gu fd s.heap.objs.size f).cells.lookup y=some c:=fun c hc=>by
   obtain⟨⟨y,c'⟩,hp,rfl⟩:=BD.mp hc;have hm:=(Dd.mp hp).1;exact⟨x.above _ _ hm,y,Vj (a4 (s.heap.objs.size+1)) hm⟩
  have S:St (Gu fd s.heap.objs.size f) (B4 names xs) σ h₁:=by
   refine⟨g.keeps a2,⟨⟨_,x.toInCall.ns,fun y av e q=>?_⟩,fun c hc=>?_,fun y av e q=>?_,?_,fun q=>?_⟩,g.fresh,fun c hc=>?_⟩
   ·obtain⟨v,e',r'⟩:=rl (Gu fd s.heap.objs.size f).kindOf r a9 e q;exact⟨v,e',r'.mono fun zz zz zz zz q zz zz=>a2 _ _ q⟩
   ·refine Fw (a0 c hc) fun zz y hy=>?_;exact⟨_,x.cell y c hy⟩
   ·obtain⟨v,e',r'⟩:=lC (Gu fd s.heap.objs.size f).kindOf r a9 e q;refine AX (Ll.mp (a3 (s.heap.objs.size+1) y q)) fun c hc=>?_;exact⟨c,v,hc,e'▸x.cell y c hc,r'.mono fun zz zz zz zz q zz zz=>a2 _ _ q⟩
   ·unfold oc;have:=x.apart;have p2:((Gu fd s.heap.objs.size f).cells.filter fun p=>(Gu fd s.heap.objs.size f).kindOf p.1==some .cell).Pairwise fun x y=>x.2≠y.2:=this.filter _;exact Nf.mpr p2
   ·exact EI _ (a0 _ q).1
   ·have b3:=(a0 c hc).1;constructor
    ·cases q:σ c with
     |none=>rfl
     |some z=>
      refine AI ((g.own _ z q).2.there) fun ob e zz=>?_;exact absurd (DJ e) (hX.mpr (QC b3))
    ·cases q:hb.get? c with
     |none=>rfl
     |some ob=>exact absurd (DJ (g.base _ _ q)) (hX.mpr (QC b3))
  refine AT (k s.heap.objs.size _ S) (fun fl s₂ c6=>HI c6 fun af c3 σ₂ b2 b5 b6 q=>?_) fun zz zz e=>e.elim;refine AI (V1 b2 q) fun av a8 b7=>?_;refine⟨av,σ₂,(by cases fl<;>exact a8),b5.g,.leave (env:=Gu fd s.heap.objs.size f) (s₁:={s with heap:=h₁,toks:=tk}) a2 (fun a m=>?_) rfl rfl b6,b7⟩;rcases A7.mp m with rfl|m
  ·exact GK _
  ·exact Ie (QC (a0 a m).1)
set_option genInjectivity true
variable {τ τ':AA}
inductive BH where
 |list (l:AB)
 |tup (xs:List AV)
 |range (a:Int) (n:Nat)
 |enum (l it:AB)
 |vals (d:AB) (xs:List AV)
 |chars (x:Str)
def BH.own(I:AB):BH→List AB
 |.enum _ m=>[I,m]
 |_=>[I]
def BH.nxt:BH→AA→Nat→Option AV→Prop
 |.list l,σ,i,r=>∃xs,σ l=some (.list xs)∧r=xs[i]?
 |.tup xs,_,i,r=>r=xs[i]?
 |.range a n,_,i,r=>r=if i<n then some (.int (a+i))else none
 |.enum l _,σ,i,r=>∃xs,σ l=some (.list xs)∧r=xs[i]?.map fun x=>.tup [.int i,x]
 |.vals _ xs,_,i,r=>r=xs[i]?
 |.chars x,_,i,r=>r=x.cps[i]?.map fun c=>.str ⟨#[c]⟩
def Bo(w:AD)(τ:AA)(h:A3)(I:AB):BH→Nat→Prop
 |.list l,i=>τ I=none∧h.IsListIter I l i
 |.tup xs,i=>τ I=none∧∃t items n,τ t=none∧h.IsTupleIter I t i∧h.get? t=some {cls:=.type "tuple",data:=.seq items n}∧VRs h xs items.toList
 |.range a n,i=>τ I=none∧IsRangeIter h I (a+i) ((n:Int)-i) 1
 |.enum l m,i=>τ I=none∧τ m=none∧I≠m∧(∃a0,IsEnum h I m i a0)∧h.IsListIter m l i
 |.vals d xs,i=>τ I=none∧∃kvs ep,τ d=none∧kvs≠[]∧h.IsValIter I d i kvs.length ep∧h.DictAt (E8 pg w) d kvs ep∧VRs h xs (kvs.map (·.2))
 |.chars x,i=>τ I=none∧∃t,h.IsStrIter I "str_ascii_iterator" x t i
theorem Ar.kept(x:Ar τ s τ' s')(n:τ b=none)(e:s.heap.get? b=some o)(c:∀es ep,o.data=.dict es ep→¬Ia es):s'.heap.get? b=some o∧τ' b=none:=by
 refine AI (x.evo b o e n) fun o' m f=>?_;rw[f.of_ne c]at m;exact⟨m,x.dead e n⟩
theorem OK{o:C0}(d:o.data=.fields xs):∀es ep,o.data=.dict es ep→¬Ia es:=fun m m q=>by exact(nomatch ((d.symm.trans q)))
theorem Bo.step(it:Bo w τ s.heap I a3 i)(x:Ar τ s τ' s')(tk:Bp s.heap s'.heap):Bo w τ' s'.heap I a3 i:=by
 cases a3 with
 |list l=>
  refine LD it fun n o e c d=>?_;refine AL (x.kept n e (OK d)) fun e' n'=>?_;exact⟨n',o,e',c,d⟩
 |tup xs=>
  refine Sb it fun n t items m nt o e c d et rs=>?_;refine AL (x.kept n e (OK d)) fun e' n'=>?_;refine AL (x.kept nt et (fun zz zz q=>by cases q)) fun a7 a8=>?_;exact⟨n',t,items,m,a8,⟨o,e',c,d⟩,a7,rs.mono tk⟩
 |range a m=>
  refine AL it fun n e=>?_;refine AL (x.kept n e (fun zz zz q=>by cases q)) fun e' n'=>?_;exact⟨n',e'⟩
 |enum l c4=>
  refine RY it fun n n2 ne c2 e o e2 c d=>?_;refine AL (x.kept n e (fun zz zz q=>by cases q)) fun e' n'=>?_;refine AL (x.kept n2 e2 (OK d)) fun b6 b3=>?_;exact⟨n',b3,ne,⟨c2,e'⟩,o,b6,c,d⟩
 |vals d xs=>
  refine AL it fun n b4=>Bx b4 fun kvs ep a9=>Bs a9 fun nd ne b0 b7=>B2 b0 fun o e c dt=>AL b7 fun b5 rs=>Bx b5 fun od es b2=>Bs b2 fun ed xd dd a4=>BN a4 fun kk pp r=>?_;refine AL (x.kept n e (OK dt)) fun e' n'=>?_;have a5:∀a1 a2,od.data=.dict a1 a2→¬Ia a1:=fun a1 a2 q k=>by
   obtain⟨rfl,rfl⟩:=PySem.Data.dict.inj ((dd.symm.trans q));have hl:=pp.length;cases a6:es.toList with
   |nil=>rw[a6]at hl;exact ne (Lh hl.symm)
   |cons a0 c3=>
    have hm:a0∈es:=Zda.mp (by rw[a6];exact .head _);refine Bx (k a0 hm) fun n1 t1 q1=>?_;refine AI (kk a0 hm) fun k2 q2 zz=>?_;refine AX (Pu q2) fun t2 q3=>?_;exact(nomatch ((q1.symm.trans q3)))
  refine AL (x.kept nd ed a5) fun b1 c1=>?_;exact⟨n',kvs,ep,c1,ne,⟨o,e',c,dt⟩,⟨od,es,b1,xd,dd,kk,pp,r⟩,rs.mono tk⟩
 |chars y=>
  refine MY it fun n t o e c d=>?_;refine AL (x.kept n e (OK d)) fun e' n'=>?_;exact⟨n',t,o,e',c,d⟩
structure Kp(own:List AB)(s s':AQ):Prop where
 k:∀b o,b∉own→s.heap.get? b=some o→s'.heap.get? b=some o
 gens:s'.gens=s.gens
 os:s'.os=s.os
def Hp:BH→Expr→Prop
 |.list _,_=>True
 |.tup _,_=>True
 |.enum ..,t=>∃n k m,t=.Tuple n k m
 |_,t=>∃x m,t=.Name x m
inductive I8(w:AD)(τ:AA)(I:AB)(src:BH)(i:Nat)(r:Option AV)(s:AQ)(v:Value)(s₂:AQ):Prop
 |mk (x:AV) (e:r=some x) (rx:VR s₂.heap x v) (it:Bo w τ s₂.heap I src (i+1)) (kp:Kp (src.own I) s s₂)
def NU{m a1 a2 a3 n a5 a6 a7 a8}{c:Prop}:=@I8.casesOn m a1 a2 a3 n a5 a6 a7 a8 (fun zz=>c)
theorem Rp{a0:List AB}(k:∀b o,b∉a0→h.get? b=some o→h'.get? b=some o)(f:∀b∈a0,∃o xs,h.get? b=some o∧o.data=.fields xs):Bp h h':=fun b ob items n e c d=>by
 refine k b ob (fun m=>?_) e;refine Cp (f b m) fun o xs e' d'=>?_;obtain rfl:=An ((e.symm.trans e'));exact(nomatch ((d.symm.trans d')))
theorem Vv(n:∃o,h.get? I=some o∧o.cls=C∧o.data=.fields xs):∀b∈[I],∃o xs,h.get? b=some o∧o.data=.fields xs:=fun b m=>by
 rw[Aq.mp m];exact B2 n fun o e zz d=>⟨o,_,e,d⟩
theorem Bo.next{I:AB}{a2:BH}{i:Nat}{r:Option AV}{target:Expr}(g:G σ s.heap)(it:Bo w τ s.heap I a2 i)(hh:A.handled=none)(hn:a2.nxt σ i r)(ht:Hp a2 target){E:Value→AQ→Prop}:
  AR (Ae pg w) A (Jj (.ref I)) (fun q s₁=>match q with
   |none=>r=none∧Kp (a2.own I) s s₁
   |some v=>AR (Ae pg w) A (Xj target (.ref I) v) (fun zz=>I8 w τ I a2 i r s v) E s₁) E s:=by
 cases a2 with
 |list l=>
  refine AL it fun nI a0=>?_;refine AI hn fun xs hl b5=>?_;subst b5;refine Ci ((g.own _ _ hl).2) fun items n el rs=>?_;have hL:s.heap.IsList l items:=⟨_,el,rfl,n,rfl⟩;have fI:=Vv a0;cases q:items[i]? with
  |none=>
   refine wpAny_pyNext_list_end hh a0 hL q fun h' e=>⟨?_,fun b o hb eb=>e b o (fun h=>hb (Aq.mpr h)) eb,rfl,rfl⟩;cases q2:xs[i]? with
   |none=>rfl
   |some x=>
    refine AI (rs.get' q2) fun v e zz=>?_;rw[Dp,q]at e;exact Au e
  |some v=>
   refine wpAny_pyNext_list_item a0 hL q fun h' a1 hs=>letGo_listiter a1 ?_;refine AI (rs.get (by rw[Dp];exact q)) fun x ex rx=>?_;have k:∀b o,b∉[I]→s.heap.get? b=some o→h'.get? b=some o:=fun b o hb eb=>hs.extBut b o (fun h=>hb (by simp[h])) eb;exact⟨x,ex,rx.mono (Rp k fI),⟨nI,a1⟩,k,rfl,rfl⟩
 |tup xs=>
  refine RA it fun nI t items n b6 a0 et rs=>?_;have hn:r=xs[i]? :=hn;subst hn;have hT:s.heap.IsTuple t items:=⟨_,et,rfl,n,rfl⟩;have fI:=Vv a0;cases q:items[i]? with
  |none=>
   refine wpAny_pyNext_tuple_end hh a0 hT q fun h' e=>⟨?_,fun b o hb eb=>e b o (fun h=>hb (Aq.mpr h)) eb,rfl,rfl⟩;cases q2:xs[i]? with
   |none=>rfl
   |some x=>
    refine AI (rs.get' q2) fun v e zz=>?_;rw[Dp,q]at e;exact Au e
  |some v=>
   refine wpAny_pyNext_tuple_item a0 hT q fun h' a1 hs=>letGo_tupleiter a1 ?_;refine AI (rs.get (by rw[Dp];exact q)) fun x ex rx=>?_;have k:∀b o,b∉[I]→s.heap.get? b=some o→h'.get? b=some o:=fun b o hb eb=>hs.extBut b o (fun h=>hb (by simp[h])) eb;have tk:=Rp k fI;exact⟨x,ex,rx.mono tk,⟨nI,t,items,n,b6,a1,tk _ _ _ _ et rfl rfl,rs.mono tk⟩,k,rfl,rfl⟩
 |range a m=>
  refine AL it fun nI a0=>?_;have hn:r=if i<m then some (.int (a+i))else none:=hn;refine Bx ht fun y py b1=>?_;subst b1;by_cases q:i<m
  ·rw[if_pos q]at hn;refine wpAny_pyNext_range_item a0 (!Am mX q) fun h' a1 hs=>Lo (a:=Unit.unit) rfl ?_;refine⟨_,hn,.int _ _,⟨nI,?_⟩,fun b o hb eb=>hs.extBut b o (fun h=>hb (Aq.mpr h)) eb,rfl,rfl⟩;have e1:a+((i+1:Nat):Int)=a+(i:Int)+1:=by exact mo
   have e2:(m:Int)-((i+1:Nat):Int)=(m:Int)-(i:Int)-1:=by exact Am o76
   rw[e1,e2];exact a1
  ·rw[if_neg q]at hn;exact wpAny_pyNext_range_end hh a0 (!Am pr q) fun h' e=>⟨hn,fun b o hb eb=>e b o (fun h=>hb (Aq.mpr h)) eb,rfl,rfl⟩
 |enum l a6=>
  refine Bs it fun nI a9 ne a4=>AL a4 fun a7 a0=>AX a7 fun c3 he=>?_;refine AI hn fun xs hl b7=>?_;subst b7;refine Ci ((g.own _ _ hl).2) fun items n el rs=>?_;have hL:s.heap.IsList l items:=⟨_,el,rfl,n,rfl⟩;refine LN ht fun c1 kk c2 b4=>?_;subst b4;have fI:∀b∈[I,a6],∃o xs,s.heap.get? b=some o∧o.data=.fields xs:=by
   refine B2 a0 fun o e c d=>?_;intro b hb;rcases A7.mp hb with rfl|hb
   ·exact⟨_,_,he,rfl⟩
   ·rw[Aq.mp hb];exact⟨o,_,e,d⟩
  cases q:items[i]? with
  |none=>
   refine wpAny_pyNext_enum_end hh he a0 hL q fun h' e=>⟨?_,fun b o hb eb=>e b o (fun h=>hb (by simp[h,BH.own])) eb,rfl,rfl⟩;cases q2:xs[i]? with
   |none=>rfl
   |some x=>
    refine AI (rs.get' q2) fun v e zz=>?_;rw[Dp,q]at e;exact Au e
  |some v=>
   refine wpAny_pyNext_enum_item he a0 hL q ne fun h' b3 a1 et c4 hk=>wpAny_letOwnedTupleGo_enum b3 fun b0 a3 hs=>?_;refine AI (rs.get (by rw[Dp];exact q)) fun x ex rx=>?_;have k:∀b o,b∉[I,a6]→s.heap.get? b=some o→b0.get? b=some o:=fun b o hb eb=>hs.extBut b o (fun h=>hb (by simp[h])) (hk b o (fun h=>hb (by simp[h])) (fun h=>hb (by simp[h])) eb);have tk:=Rp k fI;have sI:s.heap.objs.size≠I:=fun e=>by rw[←e]at he;exact absurd (DJ he) (EI _)
   refine⟨.tup [.int i,x],by rw[ex];rfl,.tup (hs.extBut _ _ sI et) (.cons (.int _ _) (.cons (rx.mono tk) .nil)),⟨nI,a9,ne,⟨v,?_⟩,?_⟩,k,rfl,rfl⟩
   ·have:((i+1:Nat):Int)=(i:Int)+1:=by exact A5 mH
    rw[this];exact a3
   ·refine AI a1 fun o e r=>?_;exact⟨o,hs.extBut _ _ (Ne.symm ne) e,r⟩
 |vals d xs=>
  refine AL it fun nI a8=>Bx a8 fun kvs ep a5=>LA a5 fun nd ne a0 hm rs=>?_;have hn:r=xs[i]? :=hn;subst hn;have fI:=Vv a0;have dI:d≠I:=by
   rintro rfl;refine B2 a0 fun o e c zz=>?_;refine Ec hm fun o' zz e' x zz=>?_;obtain rfl:=An ((e.symm.trans e'));rw[x.1]at c;simp at c
  cases q:kvs[i]? with
  |none=>
   refine wpAny_pyNext_values_end hh a0 hm q fun h' e=>⟨?_,fun b o hb eb=>e b o (fun h=>hb (Aq.mpr h)) eb,rfl,rfl⟩;cases q2:xs[i]? with
   |none=>rfl
   |some x=>
    refine AI (rs.get' q2) fun v e zz=>?_;rw[CH,q]at e;exact Au e
  |some kv=>
   obtain⟨kk,v⟩:=kv;refine wpAny_pyNext_values_item a0 hm q fun h' a1 hs=>letGo_valiter a1 ?_;refine AI (rs.get (i:=i) (v:=v) (by rw[CH,q];rfl)) fun x ex rx=>?_;have k:∀b o,b∉[I]→s.heap.get? b=some o→h'.get? b=some o:=fun b o hb eb=>hs.extBut b o (fun h=>hb (by simp[h])) eb;have tk:=Rp k fI;refine⟨x,ex,rx.mono tk,⟨nI,kvs,ep,nd,ne,a1,?_,rs.mono tk⟩,k,rfl,rfl⟩;refine Cp hm fun o es e r=>?_;exact⟨o,es,k _ _ (by simpa using dI) e,r⟩
 |chars y=>
  refine Fw it fun nI t a0=>?_;have hn:r=y.cps[i]?.map fun c=>.str ⟨#[c]⟩:=hn;refine Bx ht fun z pz b2=>?_;subst b2;cases q:y.cps[i]? with
  |none=>
   rw[q]at hn;exact wpAny_pyNext_ascii_end hh a0 q fun h' e=>⟨hn,fun b o hb eb=>e b o (fun h=>hb (Aq.mpr h)) eb,rfl,rfl⟩
  |some c=>
   rw[q]at hn;refine wpAny_pyNext_ascii_item a0 q fun h' a1 hs=>Lo (a:=Unit.unit) rfl ?_;exact⟨_,hn,.str _ _,⟨nI,t,a1⟩,fun b o hb eb=>hs.extBut b o (fun h=>hb (Aq.mpr h)) eb,rfl,rfl⟩
set_option genInjectivity false
def EW(σ:AA)(s:AQ)(b:AB):Prop:=σ b=none→s.heap.get? b=none
theorem Ar.fresh(x:Ar σ s σ' s')(n:s'.heap.get? b=none):EW σ s b:=fun q=>by
 cases e:s.heap.get? b with
 |none=>rfl
 |some o=>refine AI (x.evo b o e q) fun o' m zz=>?_;exact Au ((n.symm.trans m))
inductive IT(σ:AA)(s:AQ)(Φ:BH→AA→Prop)(it:Value)(s₂:AQ):Prop
 |mk (I:AB) (src:BH) (σ₂:AA) (e:it=.ref I) (hit:Bo w σ₂ s₂.heap I src 0) (hf:∀b∈src.own I,EW σ s b) (g:G σ₂ s₂.heap) (t:Ar σ s σ₂ s₂) (q:Φ src σ₂)
def Jb{m a1 a2 a3 n}{c:Prop}:=@IT.casesOn m a1 a2 a3 n (fun _=>c)
def BQ(A:Ab)(env:Af)(e:Expr)(ρ:AW)(σ:AA)(Φ:BH→AA→Prop):Prop:=
 ∀s,St env ρ σ s.heap→AR (Ae pg w) A (A0 e env) (fun v s₁=>AR (Ae pg w) A (Ng v) (IT σ s Φ) (fun m m=>False) s₁) (fun m m=>False) s
theorem S7(it:Bo w τ s.heap I a6 i)(q:Q (.ref I) s):AR (Ae pg w) A (Ng (.ref I)) Q E s:=by
 cases a6 with
 |list l=>exact wpAny_pyIter_listiter it.2 q
 |tup xs=>refine AL it fun m a1=>O0 a1 fun t items n m a0 m=>?_;exact wpAny_pyIter_tupleiter a0 q
 |range a n=>exact wpAny_pyIter_rangeiter it.2 q
 |enum l j=>refine Bs it fun m m m a5=>AL a5 fun a4 m=>AX a4 fun a7 he=>?_;exact wpAny_pyIter_enum he q
 |vals d xs=>refine AL it fun m a2=>Bx a2 fun kvs ep a3=>Bs a3 fun m m a0 m=>?_;exact wpAny_pyIter_valiter a0 q
 |chars x=>refine Fw it fun m t a0=>?_;exact wpAny_pyIter_striter_ascii a0 q
inductive xI(Φ:BH→AA→Prop)(v:AV)(σ₁:AA):Prop
 |mk (l:AB) (xs:List AV) (e1:v=.ref l) (e2:σ₁ l=some (.list xs)) (q:Φ (.list l) σ₁)
inductive xg(Φ:BH→AA→Prop)(v:AV)(σ₁:AA):Prop
 |mk (xs:List AV) (e1:v=.tup xs) (q:Φ (.tup xs) σ₁)
inductive mr(Φ:BH→AA→Prop)(v:AV)(σ₁:AA):Prop
 |mk (x:Str) (e1:v=.str x) (ha:x.cps.all (· <128)=true) (q:Φ (.chars x) σ₁)
inductive Q0(Φ:BH→AA→Prop)(xs:List AV)(σ₂:AA):Prop
 |mk (n:Nat) (e:xs=[.int n]) (h:n<1000000) (q:Φ (.range 0 n) σ₂)
def Zcb{m n a2}{c:Prop}:=@Q0.casesOn m n a2 (fun zz=>c)
inductive Rx(Φ:BH→AA→Prop)(xs:List AV)(σ₂:AA):Prop
 |mk (a n:Nat) (e:xs=[.int a,.int n]) (h1:a<1000000) (h2:n<1000000) (q:Φ (.range a (n-a)) σ₂)
def Zb5{m n a2}{c:Prop}:=@Rx.casesOn m n a2 (fun zz=>c)
inductive Rg(Φ:BH→AA→Prop)(xs:List AV)(σ₂:AA):Prop
 |mk (l:AB) (ys:List AV) (e:xs=[.ref l]) (h1:σ₂ l=some (.list ys)) (q:∀it,Φ (.enum l it) σ₂)
def Zcm{m n a2}{c:Prop}:=@Rg.casesOn m n a2 (fun zz=>c)
theorem Ey{e:Expr}{Φ:BH→AA→Prop}(k:EV A env e ρ σ (xI Φ)):BQ A env e ρ σ Φ:=fun s S=>
 AT (k s S) (fun v s₁ ⟨av,m,r,g,t,l,xs,e1,e2,q⟩=>by
  subst e1;obtain rfl:=VR.inv_ref r;refine Ci ((g.own _ _ e2).2) fun items n el rs=>?_;exact wpAny_pyIter_list ⟨_,el,rfl,n,rfl⟩ ⟨_,.list l,m,rfl,⟨g.fresh.1,_,Bz _ rfl,rfl,rfl⟩,fun b hb=>Aq.mp hb▸t.fresh (GK _),g.push _,t.trans (.push _),q⟩) fun zz zz e=>e
theorem Pg(k:EV A env e ρ σ (xg Φ)):BQ A env e ρ σ Φ:=fun s S=>
 AT (k s S) (fun v s₁ ⟨av,m,r,g,t,xs,e1,q⟩=>by
  subst e1;refine Ja r fun a items n et rs=>?_;exact wpAny_pyIter_tuple ⟨_,et,rfl,n,rfl⟩ ⟨_,.tup xs,m,rfl,⟨g.fresh.1,a,items,n,g.notTup et rfl rfl,⟨_,Bz _ rfl,rfl,rfl⟩,BC _ et,rs.mono fun zz zz zz zz q zz zz=>BC _ q⟩,
   fun b hb=>Aq.mp hb▸t.fresh (GK _),g.push _,t.trans (.push _),q⟩) fun zz zz e=>e
theorem Zb8(k:EV A env e ρ σ (mr Φ)):BQ A env e ρ σ Φ:=fun s S=>
 AT (k s S) (fun v s₁ ⟨av,m,r,g,t,x,e1,ha,q⟩=>by
  subst e1;obtain⟨_,rfl⟩:=VR.inv_str r;exact wpAny_pyIter_ascii ha ⟨_,.chars x,m,rfl,⟨g.fresh.1,_,_,Bz _ rfl,rfl,rfl⟩,fun b hb=>Aq.mp hb▸t.fresh (GK _),g.push _,t.trans (.push _),q⟩) fun n n e=>e
theorem Oa{id:Str}{Q:Value→AQ→Prop}(S:St env ρ σ s.heap)
  (k:EV A env (.Name id p) ρ σ fun fv m=>∃T,fv=.fix (.type T)∧AC A env a3 args ρ m fun xs σ₂=>∀s₂ vs,G σ₂ s₂.heap→VRs s₂.heap xs vs→Ar σ s σ₂ s₂→
   AR (Ae pg w) A (call (.type T) vs) Q (fun n n=>False) s₂)(hp:autoParam (CJ args=true) aR):
  AR (Ae pg w) A (A0 (.Call (.Name id p) args [] a3) env) Q (fun n n=>False) s:=
 TO (AT (k s S) (fun u s₁ ⟨fv,m,r,g,t,T,e1,q⟩=>by
  subst e1;obtain rfl:=VR.inv_fix r;refine hF (Er hp) (GX (Er hp) ?_);exact AT (q s₁ (S.step g t)) (fun vs s₂ ⟨xs,σ₂,a1,a2,a0,q⟩=>q s₂ vs a2 a1 (t.trans a0)) fun n n e=>e) fun n n e=>e)
theorem de{a b:Int}(n:a.natAbs<1000000)(m:b.natAbs<1000000):Zdc a b 1=true∧hZ a b 1=((b-a).toNat:Int):=by
 have e:hZ a b 1=((b-a).toNat:Int):=by
  unfold hZ;refine(if_pos ⋯).trans ?_;by_cases h:a<b
  ·refine(if_pos h).trans ?_;rw[Int.ediv_one,Int.sub_add_cancel,XU (Int.sub_nonneg_of_le (gu h))]
  ·refine(if_neg h).trans ?_;rw[Int.toNat_of_nonpos (Int.sub_nonpos_of_le (iA.mp h))];rfl
 refine⟨?_,e⟩;unfold Zdc;rw[e];unfold Builtin.Range.rangeFitsLong;simp;exact vH n m
theorem gB(hr:IsRange s.heap r a b 1 t u v)(h1:a.natAbs<1000000)(h2:b.natAbs<1000000)(hn:(b-a).toNat=n)(g:G σ' s.heap)(x:Ar σ s₀ σ' s)(q:Φ (.range a n) σ'):
  AR (Ae pg w) A (Ng (.ref r)) (IT σ s₀ Φ) (fun zz zz=>False) s:=by
 have m:=de h1 h2;refine wpAny_pyIter_range hr m.1 ⟨_,.range a n,σ',rfl,⟨g.fresh.1,?_⟩,fun b hb=>Aq.mp hb▸x.fresh (GK _),g.push _,x.trans (.push _),q⟩;rw[m.2,hn];have e2:a+((0:Nat):Int)=a:=by exact o81
 have e3:(n:Int)-((0:Nat):Int)=n:=by exact A5 oj
 rw[e2,e3];exact Bz _ rfl
theorem LY{id:Str}
  (k:EV A env (.Name id p) ρ σ (Is (.fix (.type "range")) fun m=>AC A env a9 [x] ρ m (Q0 Φ)))(hp:autoParam (CJ [x]=true) aR):
  BQ A env (.Call (.Name id p) [x] [] a9) ρ σ Φ:=fun s S=>by
 refine Oa S (k.mono fun fv m a8=>XB a8 fun e1 a3=>⟨_,e1,fun s₁ a2=>AT (a3 s₁ a2) (fun vs s₂ b1=>GM b1 fun xs σ₂ a6 a7 a4 b0=>Zcb b0 fun n e2 hn q=>⟨xs,σ₂,a6,a7,a4,fun b2 vs a5 a1 a0=>?_⟩) fun zz zz e=>e⟩) hp;subst e2;cases a1 with
 |cons r r'=>
  cases r';obtain⟨_,rfl⟩:=VR.inv_int r;exact call_range_1 (gB (Bz _ rfl) (!Yc) (!SL hn) (!xj) (a5.push _) (a0.trans ((Ar.push _).trans (.toks _))) q)
theorem Zcu{id:Str}
  (k:EV A env (.Name id p) ρ σ (Is (.fix (.type "range")) fun m=>AC A env a8 [x,y] ρ m (Rx Φ)))(hp:autoParam (CJ [x,y]=true) aR):
  BQ A env (.Call (.Name id p) [x,y] [] a8) ρ σ Φ:=fun s S=>by
 refine Oa S (k.mono fun fv m b0=>XB b0 fun e1 a3=>⟨_,e1,fun s₁ a2=>AT (a3 s₁ a2) (fun vs s₂ a9=>GM a9 fun xs σ₂ a6 a7 a4 b1=>Zb5 b1 fun a n e2 ha hn q=>⟨xs,σ₂,a6,a7,a4,fun b2 vs a5 a1 a0=>?_⟩) fun zz zz e=>e⟩) hp;subst e2;cases a1 with
 |cons r r'=>
  cases r' with
  |cons r2 r'=>
   cases r';obtain⟨_,rfl⟩:=VR.inv_int r;obtain⟨_,rfl⟩:=VR.inv_int r2;exact call_range_2 (gB (Bz _ rfl) (!SL ha) (!SL hn) (!pn) (a5.push _) (a0.trans ((Ar.push _).trans (.toks _))) q)
theorem Zbe{id:Str}
  (k:EV A env (.Name id p) ρ σ (Is (.fix (.type "enumerate")) fun a0=>AC A env b1 [x] ρ a0 (Rg Φ)))(hp:autoParam (CJ [x]=true) aR):
  BQ A env (.Call (.Name id p) [x] [] b1) ρ σ Φ:=fun s S=>by
 refine Oa S (k.mono fun fv a0 b0=>XB b0 fun e1 a5=>⟨_,e1,fun s₁ a4=>AT (a5 s₁ a4) (fun vs s₂ b3=>GM b3 fun xs σ₂ a8 a9 a6 a7=>Zcm a7 fun l ys e2 hl q=>⟨xs,σ₂,a8,a9,a6,fun a2 vs m a3 a1=>?_⟩) fun zz zz e=>e⟩) hp;subst e2;cases a3 with
 |cons r r'=>
  cases r';obtain rfl:=VR.inv_ref r;refine Ci ((m.own _ _ hl).2) fun items n el rs=>?_;refine call_enumerate_list ⟨_,el,rfl,n,rfl⟩ fun h' he b2 b4 hk=>?_;refine wpAny_pyIter_enum he ⟨_,.enum l a2.heap.objs.size,σ₂,rfl,⟨?_,m.fresh.1,Nat.succ_ne_self _,⟨_,he⟩,b2⟩,fun b hb=>?_,m.keeps hk,a1.trans (.keeps hk rfl rfl),q _⟩
  ·have:=m.fresh.1;cases q2:σ₂ (a2.heap.objs.size+1)with
   |none=>rfl
   |some z=>refine AI ((m.own _ z q2).2.there) fun ob e zz=>?_;exact absurd (DJ e) (hX.mpr (Gv _))
  ·rcases A7.mp hb with rfl|hb
   ·exact a1.fresh (Ie (Gv _))
   ·rw[Aq.mp hb];exact a1.fresh (GK _)
def Cd(σ:AA)(d:AB):AA:=fun b=>if b=d then none else σ b
theorem UU(σ:AA)(d:AB):∀a x,Cd σ d a=some x→σ a=some x:=fun a x e=>by
 unfold Cd at e;split at e
 ·exact Au e
 ·exact e
theorem Cn.vals{K:Type}:∀{xs:List (K×AV)}{vs},Cn h xs vs→VRs h (xs.map (·.2)) (vs.map (·.2))
 :=fun q=>by induction q with|nil=>exact .nil|cons a _ m=>exact .cons a m
theorem VC(σ:AA)(d:AB):Cd σ d d=none:=if_pos rfl
inductive kB(Φ:BH→AA→Prop)(v:AV)(σ₁:AA):Prop
 |mk (d:AB) (es:List (Int×AV)) (e:v=.ref d) (n:d≠1) (ne:es≠[]) (h:σ₁ d=some (.dictI es)) (q:Φ (.vals d (es.map (·.2))) (Cd σ₁ d))
theorem Zbd
  (k:EV A env o ρ σ (kB Φ))
  (he:autoParam (A0 (.Call (.Attribute o "values" a0) [] [] n) env=(do
   let ov ←A0 o env
   Ck a0.atName
   let(f,first) ←CS [ov] (GT ov "values" pl)
   EK n f first (Df n (BZ [] env)) (Hv n (Hw [] env)))) aR):
  BQ A env (.Call (.Attribute o "values" a0) [] [] n) ρ σ Φ:=fun s S=>
 Xh (kws:=[]) (pl:=pl) (AT (k s S) (fun u s₁ ⟨v,m,r,g,t,d,es,e1,n1,ne,e2,q⟩=>by
  subst e1;obtain rfl:=VR.inv_ref r;refine UX ((g.own _ _ e2).2) fun kvs ob a1 ep eo xd hd r5 rv=>?_;have a2:s₁.TypeIs (.ref d) "dict":=⟨_,eo,xd.1⟩;have a3:(d==sysModules)=false:=beq_eq_false_iff_ne.mpr n1;refine getMethod_builtin a2 Zdd Zde PySem.F.type_dict_values (fun a q=>by obtain rfl:=TQ q;exact⟨_,eo,xd.2.1⟩) ?_;refine g8 rfl (GX rfl (Ad ?_));refine TS Zde a2 PySem.F.entry_dict_values (PySem.F.args_dict_values_1 _) (meets_dict_values (E8 pg w) d a3) ⟨⟨kvs,ob,a1,ep,eo,xd,hd,r5⟩,?_⟩;refine wpAny_pyIter_values (knd:=E8 pg w) (kvs:=kvs) (ep:=ep) (d:=d) ⟨_,Bz _ rfl,rfl,rfl⟩ ⟨ob,a1,BC _ eo,xd,hd,r5⟩ ?_;have g':G (Cd m d) s₁.heap:=g.weaken (UU _ _);have fr:=((g'.push {cls:=.type "dict_values",data:=.fields #[.ref d]}).fresh).1;refine⟨_,.vals d (es.map (·.2)),Cd m d,rfl,⟨fr,kvs,ep,VC _ _,(fun z=>ne (by subst z;cases rv;rfl)),⟨_,Bz _ rfl,rfl,rfl⟩,⟨ob,a1,BC _ (BC _ eo),xd,hd,r5⟩,
   rv.vals.mono fun zz zz zz zz e zz zz=>BC _ (BC _ e)⟩,fun b hb=>Aq.mp hb▸ ?_,(g'.push _).push _,(t.trans ((Ar.push _).trans (Ar.push _))).weaken (UU _ _),q⟩
  exact(t.trans (Ar.push _)).fresh (GK _)) fun zz zz e=>e) he
variable {ρ':AW}
theorem Bo.fields(it:Bo w τ h I a1 i):∀b∈a1.own I,τ b=none∧∃o xs,h.get? b=some o∧o.data=.fields xs:=by
 cases a1 with
 |enum l j=>
  refine RY it fun n n2 ne a4 e o e2 c d=>?_;intro b hb;rcases A7.mp hb with rfl|hb
  ·exact⟨n,_,_,e,rfl⟩
  ·rw[Aq.mp hb];exact⟨n2,_,_,e2,d⟩
 |list l=>refine LD it fun n o e c d=>?_;intro b hb;rw[Aq.mp hb];exact⟨n,_,_,e,d⟩
 |tup xs=>refine Sb it fun n t items m nt o e c d et rs=>?_;intro b hb;rw[Aq.mp hb];exact⟨n,_,_,e,d⟩
 |range a m=>refine AL it fun n e=>?_;intro b hb;rw[Aq.mp hb];exact⟨n,_,_,e,rfl⟩
 |vals d xs=>refine AL it fun n a2=>Bx a2 fun kvs ep a0=>Bs a0 fun nd ne a3 zz=>B2 a3 fun o e c dt=>?_;intro b hb;rw[Aq.mp hb];exact⟨n,_,_,e,dt⟩
 |chars y=>refine MY it fun n t o e c d=>?_;intro b hb;rw[Aq.mp hb];exact⟨n,_,_,e,d⟩
def BH.open_:BH→Prop
 |.vals ..=>False
 |_=>True
theorem St.fpData(S:St env ρ σ h)(m:b∈fp env):σ b=none∧hb.get? b=none∧∃o,h.get? b=some o∧((∃es ep,o.data=.dict es ep)∨∃v,o.data=.cell v):=by
 rcases A7.mp m with rfl|hm
 ·refine Jy S.l.ns fun m n es ep ho hd zz zz=>?_;exact⟨S.nL.1,S.nL.2,n,ho,.inl ⟨es,ep,hd⟩⟩
 ·refine Cp (S.l.cell b hm) fun v n ho hd=>?_;exact⟨(S.nC b hm).1,(S.nC b hm).2,n,ho,.inr ⟨v,hd⟩⟩
theorem G.none1(g:G σ h)(m:h.get? a=none):σ a=none:=by
 cases q:σ a with
 |none=>rfl
 |some z=>exact AI ((g.own a z q).2.there) fun ob e n=>Au (m.symm.trans e)
theorem G.noneb(g:G σ h)(m:h.get? a=none):hb.get? a=none:=by
 cases q:hb.get? a with
 |none=>rfl
 |some o=>exact Bf ((g.base a o q).symm.trans m)
theorem St.nofp(S:St env ρ σ h)(ha:h.get? a=none):a∉fp env:=fun m=>BN (S.fpData m) fun zz zz n=>AI n fun o e zz=>Au (ha.symm.trans e)
theorem JR(n:σ b=none)(m:b∉fp env):fx env σ b=none:=by unfold fx;rw[if_neg m];exact n
theorem IL(n:fx env σ b=none):σ b=none∧b∉fp env:=by
 unfold fx at n;split at n
 ·exact Bf n
 ·rename_i m;exact⟨n,m⟩
theorem St.ownfx(S:St env ρ σ h){L:List AB}(hf:∀b∈L,σ b=none∧∃o xs,h.get? b=some o∧o.data=.fields xs):∀b∈L,fx env σ b=none:=fun b m=>JR (hf b m).1 fun m2=>by
 refine BN (S.fpData m2) fun zz zz n=>AI n fun o' e' cc=>?_;refine MU (hf b m) fun zz o xs e d=>?_;obtain rfl:=An ((e.symm.trans e'));rcases cc with⟨es,ep,cc⟩|⟨v,cc⟩<;>exact nomatch d.symm.trans cc
theorem Bo.toF(S:St env ρ σ h)(it:Bo w σ h I a1 i)(ho:a1.open_):Bo w (fx env σ) h I a1 i:=by
 have nf:∀{b:AB}{o:C0},h.get? b=some o→(∀es ep,o.data≠.dict es ep)→(∀v,o.data≠.cell v)→b∉fp env:=fun e d1 d2 m=>by
  refine BN (S.fpData m) fun zz zz a2=>AI a2 fun o' e' c=>?_;obtain rfl:=An ((e.symm.trans e'));rcases c with⟨es,ep,c⟩|⟨v,c⟩
  ·exact d1 _ _ c
  ·exact d2 _ c
 have a0:∀b∈a1.own I,fx env σ b=none:=fun b hb=>by
  refine MU (it.fields b hb) fun n o xs e d=>?_;exact JR n (nf e (fun zz zz q=>!(nomatch ((d.symm.trans q)))) (fun zz q=>!(nomatch ((d.symm.trans q)))))
 cases a1 with
 |list l=>exact⟨a0 I (.head _),it.2⟩
 |tup xs=>
  refine RA it fun n t items m nt r et rs=>?_;exact⟨a0 I (.head _),t,items,m,JR nt (nf et (fun zz zz q=>!nomatch q) (fun zz q=>!nomatch q)),r,et,rs⟩
 |range a m=>exact⟨a0 I (.head _),it.2⟩
 |enum l j=>exact⟨a0 I (.head _),a0 j (.tail _ (.head _)),it.2.2⟩
 |vals d xs=>exact ho.elim
 |chars y=>exact⟨a0 I (.head _),it.2⟩
theorem Kp.stp(k:Kp a0 s s')(x:Ar τ s₀ τ' s)(f:∀b∈a0,EW τ s₀ b):Ar τ s₀ τ' s':=by
 refine⟨fun b o e n=>?_,x.dom,k.gens.trans x.gens,k.os.trans x.os⟩;refine AI (x.evo b o e n) fun o' e' fr=>?_;refine⟨o',k.k b o' (fun m=>?_) e',fr⟩;have:=f b m n;exact Bf ((e.symm.trans this))
theorem G.kp{a0:List AB}(g:G σ s.heap)(k:Kp a0 s s')(hn:∀b∈a0,σ b=none)(hf:∀b∈a0,hb.get? b=none∧∃o xs,s.heap.get? b=some o∧o.data=.fields xs):G σ s'.heap∧Bp s.heap s'.heap:=by
 have tk:Bp s.heap s'.heap:=fun b ob items n e c d=>by
  refine k.k b ob (fun m=>?_) e;refine MU (hf b m) fun zz o xs e' d'=>?_;obtain rfl:=An ((e.symm.trans e'));exact(nomatch ((d.symm.trans d')))
 refine⟨⟨fun b o e=>k.k b o (fun m=>?_) (g.base b o e),fun a x e=>⟨(g.own a x e).1,?_⟩⟩,tk⟩
 ·exact Au ((((hf b m).1).symm.trans e))
 ·refine AI ((g.own a x e).2.there) fun ob q zz=>?_;exact(g.own a x e).2.keeps ((k.k _ _ (fun m=>!Au (((hn a m).symm.trans e))) q).trans q.symm) tk
theorem St.kp(S:St env ρ σ s.heap)(k:Kp n s s')(hn:∀b∈n,fx env σ b=none)(hf:∀b∈n,hb.get? b=none∧∃o xs,s.heap.get? b=some o∧o.data=.fields xs):St env ρ σ s'.heap:=by
 have a0:=fun b m=>IL (hn b m);refine AL (S.g.kp k (fun b m=>(a0 b m).1) hf) fun g' tk=>?_;have kf:∀b∈fp env,∀o,s.heap.get? b=some o→s'.heap.get? b=some o:=fun b m o e=>k.k b o (fun q=>(a0 b q).2 m) e;refine⟨g',⟨?_,fun c hc=>?_,fun x av e q=>?_,S.l.apart,S.l.apart2⟩,S.nL,S.nC⟩
 ·refine PG S.l.ns fun m o es ep ho r hm=>?_;exact⟨m,⟨o,es,ep,kf _ (.head _) _ ho,r⟩,fun x av e q=>AI (hm x av e q) fun v a b=>⟨v,a,b.mono tk⟩⟩
 ·refine Cp (S.l.cell c hc) fun v o ho r=>?_;exact⟨v,o,kf _ (.tail _ hc) _ ho,r⟩
 ·refine OC (S.l.cellv x av e q) fun c v e1 o ho r rv=>?_;exact⟨c,v,e1,⟨o,kf _ (.tail _ (J7 e1 q)) _ ho,r⟩,rv.mono tk⟩
def Vt(next:AW→AA→Prop)(Φ:CK→AW→AA→Prop):CK→AW→AA→Prop
 |.next,ρ,σ=>next ρ σ
 |.cont,ρ,σ=>next ρ σ
 |.brk,ρ,σ=>Φ .next ρ σ
 |.ret v,ρ,σ=>Φ (.ret v) ρ σ
theorem Oh{n:List AB}(g:G σ s.heap)(f:∀b∈n,EW σ s b):∀b∈n,hb.get? b=none:=fun b m=>by
 cases q:σ b with
 |some x=>exact(g.own b x q).1
 |none=>
  have:=f b m q;cases e:hb.get? b with
  |none=>rfl
  |some o=>exact Bf (((g.base b o e).symm.trans this))
def v8(A:Ab)(env:Af)(target:Expr)(body:List DD)(Inv:AW→AA→Prop)(Φ:CK→AW→AA→Prop):Option AV→AW→AA→Prop
 |none,ρ',σ'=>Φ .next ρ' σ'
 |some x,ρ',σ'=>AP A env (Fh target env) x ρ' σ' fun m σ₂=>EX A env body m σ₂ (Vt Inv Φ)
inductive SK(A:Ab)(env:Af)(target:Expr)(body:List DD)(Inv:Nat→AW→AA→Prop)(Φ:CK→AW→AA→Prop)(src:BH)(N i:Nat)(ρ':AW)(σ':AA):Prop
 |mk (hi:i≤N) (r:Option AV) (hr:src.nxt σ' i r) (q:v8 A env target body (Inv (i+1)) Φ r ρ' σ')
def Zcy{n a1 a2 a3 a4 a5 a6 a7 a8 a9 m}{c:Prop}:=@SK.casesOn n a1 a2 a3 a4 a5 a6 a7 a8 a9 m (fun _=>c)
inductive Q1(A:Ab)(env:Af)(target:Expr)(body:List DD)(ρ:AW)(Φ:CK→AW→AA→Prop)(src:BH)(σ₁:AA):Prop
 |mk (ht:Hp src target) (ho:src.open_) (N:Nat) (Inv:Nat→AW→AA→Prop) (i0:Inv 0 ρ σ₁) (step:∀i ρ' σ',Inv i ρ' σ'→SK A env target body Inv Φ src N i ρ' σ')
def Zbb{m a1 a2 a3 n a5 a6 a7}{c:Prop}:=@Q1.casesOn m a1 a2 a3 n a5 a6 a7 (fun _=>c)
inductive Ru(env:Af)(σ:AA)(s:AQ)(I:AB)(src:BH)(N:Nat)(Inv:Nat→AW→AA→Prop)(n:Nat)(s':AQ):Prop
 |mk (i:Nat) (ρ':AW) (σ':AA) (hn:N<n+i) (inv:Inv i ρ' σ') (S:St env ρ' σ' s'.heap) (t:Ar (fx env σ) s (fx env σ') s') (it:Bo w (fx env σ') s'.heap I src i)
def Zbt{m a1 a2 a3 n a5 a6 a7 a8}{c:Prop}:=@Ru.casesOn m a1 a2 a3 n a5 a6 a7 a8 (fun _=>c)
theorem Gl(hh:A.handled=none)
  (k:BQ A env b2 ρ σ (Q1 A env target body ρ Φ))
  (hs:autoParam (∀x,Gw b2 env x=pure x) aI):Eg A env (.For target b2 body [] e5) ρ σ Φ:=fun s S=>by
 refine wpAny_For (AT (k s S) (fun v s₁ h₁=>AT h₁ (fun it s₂ c8=>Jb c8 fun I b7 a4 e1 d5 c4 g t d1=>Zbb d1 fun ht ho N Inv i0 step=>?_) fun zz zz e=>e) fun zz zz e=>e) hs;subst e1;have b3:St env ρ a4 s₂.heap:=S.step g t;have c3:=Oh S.g c4;have c5:∀b∈b7.own I,EW (fx env σ) s b:=fun b m n=>c4 b m (IL n).1;refine codeAny_forLoop_any (Ru env σ s I b7 N Inv) (fun n s' d4=>Zbt d4 fun i ρ' σ' hn e2 S' t' b1=>?_) (N+1) ⟨0,ρ,a4,!A9 _,i0,b3,t.toF,d5.toF b3 ho⟩;refine Zcy (step i ρ' σ' e2) fun d2 r hr q=>?_;have hf:=b1.fields;refine AT (Bo.next (target:=target) (E:=fun zz zz=>False) S'.g b1 hh hr ht) (fun o e4 a8=>?_) fun zz zz e=>DL e
 cases o with
 |none=>
  refine AL a8 fun e kp=>?_;subst e;exact Xa ⟨.next,ρ',σ',trivial,S'.kp kp (fun b m=>(hf b m).1) (fun b m=>⟨c3 b m,(hf b m).2⟩),kp.stp t' c5,q⟩
 |some v=>
  refine AT a8 (fun zz c9 z=>NU z fun x e rx a7 kp=>?_) fun zz zz e=>DL e;subst e;have b0:=S'.kp kp (fun b m=>(hf b m).1) (fun b m=>⟨c3 b m,(hf b m).2⟩);have c2:=kp.stp t' c5;refine AT (q c9 v b0 rx) (fun _ c1 d6=>Je d6 fun d3 σ₂ b4 a5 c6=>?_) fun zz zz e=>DL e;refine AT (c6 c1 b4) (fun fl e3 e0=>HI e0 fun af a0 a1 a9 a3 a6 a2=>?_) fun zz zz e=>DL e;have T:=c2.trans (a5.trans a6);have b6:=a7.step a5 (b0.tupF a5);have b5:=b6.step a6 (b4.tupF a6);cases fl<;>cases af<;>first
   |exact a9.elim
   |exact⟨n-1,!o8 hn d2,i+1,a0,a1,!o6 hn,a2,a3,T,b5⟩
   |exact⟨.next,a0,a1,trivial,a3,T,a2⟩
   |exact⟨.ret _,a0,a1,a9,a3,T,a2⟩
inductive xM(Inv:Nat→AW→AA→Prop)(n:Nat)(ρ:AW)(σ:AA):Prop
 |mk (m:Nat) (h:m<n) (q:Inv m ρ σ)
inductive RN(env:Af)(σ:AA)(s:AQ)(Inv:Nat→AW→AA→Prop)(n:Nat)(s':AQ):Prop
 |mk (ρ':AW) (σ':AA) (inv:Inv n ρ' σ') (S:St env ρ' σ' s'.heap) (t:Ar (fx env σ) s (fx env σ') s')
def Zb2{m a1 a2 a3 n a5}{c:Prop}:=@RN.casesOn m a1 a2 a3 n a5 (fun _=>c)
theorem LS(Inv:Nat→AW→AA→Prop)(n:Nat)(h0:Inv n ρ σ)
  (step:∀n ρ' σ',Inv n ρ' σ'→TR A env a7 ρ' σ' fun b σ₂=>if b then EX A env body ρ' σ₂ (Vt (xM Inv n) Φ)else Φ .next ρ' σ₂):
  Eg A env (.While a7 body [] b3) ρ σ Φ:=fun s S=>by
 refine wpAny_While (codeAny_whileLoop (RN env σ s Inv) (fun n s' a8=>Zb2 a8 fun ρ' σ' b1 S' t'=>?_) n ⟨ρ,σ,h0,S,.refl _ _⟩);refine AT (step n ρ' σ' b1 s' S') (fun b s₂ a9=>E0 a9 fun σ₂ g t q=>?_) fun zz zz e=>DL e;have a5:=S'.step g t;have T:=t'.trans (t.toF (env:=env));cases b with
 |false=>exact Xa ⟨.next,ρ',σ₂,trivial,a5,T,q⟩
 |true=>
  refine AT (q s₂ a5) (fun fl b2 b0=>HI b0 fun af a0 a1 a6 a3 a2 a4=>?_) fun zz zz e=>DL e;cases fl<;>cases af<;>first
   |exact a6.elim
   |exact(let⟨m,hm,q⟩:=a4;⟨m,hm,a0,a1,q,a3,T.trans a2⟩)
   |exact⟨.next,a0,a1,trivial,a3,T.trans a2,a4⟩
   |exact⟨.ret _,a0,a1,a6,a3,T.trans a2,a4⟩
def DR(env:Af):List (Str×FN)→List (Str×AB)→List (Str×AB)
 |[],m=>m
 |(n,k)::r,m=>if k== .free then(match env.cells.lookup n with|some a=>DR env r ((n,a)::m)|none=>DR env r m)else DR env r m
abbrev WD(scope:C1)(env:Af):List (Str×AB):=DR env scope.names []
theorem yt:∀(names:List (Str×FN))(m:List (Str×AB)),(∀p∈names,p.2=.free→(env.cells.lookup p.1).isSome=true)→
  forIn names m (fun(x:Str×FN)(cs:List (Str×AB))=>if x.2== .free then(do let a ←cellOf env x.1;pure (QD ((x.1,a)::cs)))else pure (QD cs))=(pure (DR env names m):Sem (List (Str×AB))):=by
 intro names
 induction names with
 |nil=>
  intro m _;exact rfl
 |cons p_ r a0=>
  intro m h;obtain⟨n,k⟩:=p_;rw[List.forIn_cons];unfold DR;by_cases hk:k=.free
  ·subst hk;have h1:=h _ (.head _) rfl;refine AX (Ll.mp h1) fun a ha=>?_;have hc:cellOf env n=pure a:=by unfold cellOf;rw[ha]
   simp -iota only[beq_self_eq_true,if_true,hc,ha];exact a0 _ fun p hp=>h p (.tail _ hp)
  ·have:(k==NameKind.free)=false:=by simpa using hk
   simp -iota only[this];exact a0 _ fun p hp=>h p (.tail _ hp)
theorem WZ(h:∀p∈scope.names,p.2=.free→(env.cells.lookup p.1).isSome=true):closureFor scope env=pure (WD scope env):=by
 unfold closureFor;have:=yt (env:=env) scope.names [] h;show(do let cs ←forIn scope.names [] (fun x cs=>_);pure cs)=_
 exact(congrArg (· >>=pure) this).trans rfl
set_option tactic.hygienic true in
theorem LQ:∀{names:List (Str×FN)}{a0:List (Str×AB)}{y:Str}{a:AB},(y,a)∈DR env names a0→(y,a)∈a0∨((y,NameKind.free)∈names∧env.cells.lookup y=some a):=by
 intro names
 induction names with
 |nil=>
  intro _ _ _ h;exact .inl h
 |cons p_ r m=>
  intro a0 y a h;obtain⟨n,k⟩:=p_;unfold DR at h;split at h
  ·rename_i hk;have hk:k=.free:=by simpa using hk
   subst hk;split at h
   ·rename_i b hb;rcases m h with h|h
    ·rcases A7.mp h with e|h
     ·refine AL (NX e) fun a1 a2=>?_;subst a1;subst a2;exact .inr ⟨.head _,hb⟩
     ·exact .inl h
    ·exact .inr ⟨.tail _ h.1,h.2⟩
   ·rcases m h with h|h
    ·exact .inl h
    ·exact .inr ⟨.tail _ h.1,h.2⟩
  ·rcases m h with h|h
   ·exact .inl h
   ·exact .inr ⟨.tail _ h.1,h.2⟩
theorem Rt:∀{names:List (Str×FN)}{m:List (Str×AB)},(names.map (·.1)).Nodup→(m.map (·.1)).Nodup→(∀x∈names.map (·.1),x∉m.map (·.1))→((DR env names m).map (·.1)).Nodup:=by
 intro names
 induction names with
 |nil=>
  intro _ _ h _;exact h
 |cons p_ r a0=>
  intro m hn ha hd;obtain⟨n,k⟩:=p_;rw[CB,FM]at hn;unfold DR;have a1:∀x∈r.map (·.1),x∉m.map (·.1):=fun x hx=>hd x (TT _ hx);split
  ·split
   ·refine a0 hn.2 (by rw[CB,FM];exact⟨hd n (.head _),ha⟩) fun x hx=>?_;rw[CB,A7,not_or];exact⟨fun e=>hn.1 (by rw[←show x=n from e];exact hx),a1 x hx⟩
   ·exact a0 hn.2 ha a1
  ·exact a0 hn.2 ha a1
set_option tactic.hygienic true in
theorem cQ:∀{names:List (Str×FN)}{a0:List (Str×AB)}{y:Str},((y,NameKind.free)∈names∧(env.cells.lookup y).isSome=true)∨y∈a0.map (·.1)→y∈(DR env names a0).map (·.1):=by
 intro names
 induction names with
 |nil=>
  intro _ _ h;rcases h with h|h
  ·cases h.1
  ·exact h
 |cons p_ r m=>
  intro a0 y h;obtain⟨n,k⟩:=p_;unfold DR;split
  ·rename_i hk;have hk:k=.free:=by simpa using hk
   subst hk;split
   ·rename_i b hb;refine m ?_;rcases h with⟨h,e⟩|h
    ·rcases A7.mp h with q|h
     ·refine AL (NX q) fun a4 _=>?_;subst a4;exact .inr (.head _)
     ·exact .inl ⟨h,e⟩
    ·exact .inr (.tail _ h)
   ·rename_i hb;refine m ?_;rcases h with⟨h,e⟩|h
    ·rcases A7.mp h with q|h
     ·refine AL (NX q) fun a2 _=>?_;subst a2;rw[hb]at e;cases e
     ·exact .inl ⟨h,e⟩
    ·exact .inr h
  ·rename_i hk;refine m ?_;rcases h with⟨h,e⟩|h
   ·rcases A7.mp h with q|h
    ·refine AL (NX q) fun a3 a1=>?_;subst a3;subst a1;simp at hk
    ·exact .inl ⟨h,e⟩
   ·exact .inr h
def HX(scope:C1)(env:Af)(x:Str):Bool:=
 scope.kind== .function&&env.scope.kind== .function&&decide ((scope.names.map (·.1)).Nodup)&&scope.names.lookup x==some .local&&
 scope.names.all fun p=>match p.2 with
  |.free=>env.kindOf p.1==some .cell&&(env.cells.lookup p.1).isSome
  |.local=>p.1==x||p.1==".0"
  |.cell=>false
  |_=>true
structure MK(scope:C1)(env:Af)(x:Str):Prop where
 kind:scope.kind=.function
 ekind:env.scope.kind=.function
 nd:(scope.names.map (·.1)).Nodup
 own:scope.names.lookup x=some .local
 free:∀y,(y,NameKind.free)∈scope.names→env.kindOf y=some .cell∧(env.cells.lookup y).isSome=true
 loc:∀y,(y,NameKind.local)∈scope.names→y=x∨y=".0"
 cell:∀p∈scope.names,p.2≠.cell
theorem xt(h:HX scope env x=true):MK scope env x:=by
 unfold HX at h;simp -iota only[Fg,beq_iff_eq,decide_eq_true_eq,Fe]at h;refine AL h fun a2 h5=>AL a2 fun a1 h4=>AL a1 fun a0 h3=>AL a0 fun h1 h2=>?_;refine⟨h1,h2,h3,h4,fun y m=>?_,fun y m=>?_,fun p m e=>?_⟩
 ·have:=h5 _ m;simpa using this
 ·have:=h5 _ m;simpa using this
 ·have:=h5 _ m;obtain⟨n,k⟩:=p;subst e;simp at this
variable {scope:C1} {x:Str}
theorem OR{l:List (Str×FN)}{x:Str}{a:FN}:(l.map (·.1)).Nodup→(x,a)∈l→l.lookup x=some a:=by
 induction l with
 |nil=>exact fun zz h=>nomatch h
 |cons p r ih=>
  intro n hm;rw[CB,FM]at n;rw[QB];rcases A7.mp hm with e|m
  ·rw[←e,show(x==(x,a).1)=true from beq_self_eq_true _]
  ·rw[show(x==p.1)=false from beq_eq_false_iff_ne.mpr fun q=>n.1 (q▸BD.mpr ⟨(x,a),m,rfl⟩)];exact ih n.2 m
theorem Wo(c:MK scope env x)(e:(Gx scope env).names.lookup y=some k):(k=.cell∧(y,NameKind.free)∈scope.names)∨(k=.local∧(y=x∨y=".0"))∨(k≠.cell∧k≠.local):=by
 have m:=mem_of_lookup e;unfold Gx at m;obtain⟨⟨n,k'⟩,hm,q⟩:=BD.mp m;dsimp only at q;split at q
 ·rename_i hc;cases q;simp -iota only[Fg,beq_iff_eq]at hc;exact .inl ⟨rfl,hc.1.1▸hm⟩
 ·cases q;by_cases h1:k=NameKind.local
  ·subst h1;exact .inr (.inl ⟨rfl,c.loc _ hm⟩)
  ·exact .inr (.inr ⟨fun e=>c.cell _ hm e,h1⟩)
abbrev CQ(scope:C1)(env:Af)(C:AB):Af:=Lp scope (WD scope env) C env
theorem RS(c:MK scope env x)(e:(CQ scope env C).kindOf y=some .cell):env.kindOf y=some .cell∧(CQ scope env C).cells.lookup y=env.cells.lookup y:=by
 rcases Wo c e with⟨_,m⟩|⟨q,_⟩|⟨q,_⟩
 ·have f:=c.free y m;refine⟨f.1,?_⟩;have h1:y∈(DR env scope.names []).map (·.1):=cQ (.inl ⟨m,f.2⟩);obtain⟨⟨y',a⟩,hm,rfl⟩:=BD.mp h1;have n:=LQ hm;rcases n with n|n
  ·cases n
  ·rw[n.2];exact Vj (Rt c.nd (by simp) (by simp)) hm
 ·cases q
 ·exact absurd rfl q
theorem V9(c:MK scope env x)(h:a∈oc (CQ scope env C)):a∈oc env:=by
 obtain⟨⟨y,n⟩,hp,rfl⟩:=BD.mp h;obtain⟨hm,m⟩:=Dd.mp hp;have m:(CQ scope env C).kindOf y=some .cell:=by simpa using m
 rcases LQ (show(y,n)∈DR env scope.names []from hm)with q|q
 ·cases q
 ·exact J7 q.2 (RS c m).1
theorem Za6(c:MK scope env x)(hn:(oc env).Nodup):(oc (CQ scope env C)).Nodup:=by
 unfold oc;have hk:((DR env scope.names []).map (·.1)).Nodup:=Rt c.nd (by simp) (by simp);have m:((CQ scope env C).cells.filter fun p=>(CQ scope env C).kindOf p.1==some .cell).Pairwise fun a b=>a.1≠b.1:=(Nf.mp hk).filter _;refine Nf.mpr (m.imp_of_mem ?_);intro p q hp hq a0 e;refine AL (Dd.mp hp) fun m1 n=>?_;refine AL (Dd.mp hq) fun m2 k2=>?_;have n:(CQ scope env C).kindOf p.1=some .cell:=by simpa using n
 have k2:(CQ scope env C).kindOf q.1=some .cell:=by simpa using k2
 rcases LQ (show(p.1,p.2)∈DR env scope.names []from m1)with z|z
 ·cases z
 rcases LQ (show(q.1,q.2)∈DR env scope.names []from m2)with y|y
 ·cases y
 exact a0 (UC hn z.2 (RS c n).1 (e▸y.2) (RS c k2).1)
def EC(ρ:AW):AW:=fun y=>if y=".0" then none else ρ y
theorem St.comp(c:MK scope env x)(S:St env ρ σ h)(hn:h.Ns C m)(hx:m x=some v)(r:VR h av v)(n1:σ C=none)(n2:hb.get? C=none)(hC:C∉oc env):
  St (CQ scope env C) (put (EC ρ) x av) σ h:=by
 refine⟨S.g,⟨⟨m,hn,fun y n e k=>?_⟩,fun a ha=>S.l.cell a (V9 c ha),fun y n e k=>?_,Za6 c S.l.apart,fun q=>hC (V9 c q)⟩,⟨n1,n2⟩,fun a ha=>S.nC a (V9 c ha)⟩
 ·rcases Wo c k with⟨q,_⟩|⟨_,rfl|rfl⟩|⟨_,q⟩
  ·exact nomatch q
  ·unfold put at e;obtain rfl:=An (((if_pos rfl).symm.trans e));exact⟨v,hx,r⟩
  ·unfold put at e;split at e
   ·rename_i q;obtain rfl:=An e;exact⟨v,q▸hx,r⟩
   ·unfold EC at e;exact Au (((if_pos rfl).symm.trans e))
  ·exact absurd rfl q
 ·refine AL (RS c k) fun k1 k2=>?_;have hy:y≠x:=by
   rintro rfl;rcases Wo c k with⟨_,m⟩|⟨q,_⟩|⟨q,_⟩
   ·have:=OR c.nd m;exact(nomatch (An ((c.own.symm.trans this))))
   ·exact nomatch q
   ·exact absurd rfl q
  have hd:y≠".0":=by
   rintro rfl;have:=S.l.cellv;unfold put at e;rw[if_neg hy]at e;unfold EC at e;exact Au (((if_pos rfl).symm.trans e))
  unfold put at e;rw[if_neg hy]at e;unfold EC at e;rw[if_neg hd]at e;rw[k2];exact S.l.cellv y n e k1
end
section
variable {σ σ' σ'' τ τ':AA} {s s' s'':AQ} {h h':A3} {A:Ab} {env:Af} {ρ ρ':AW}
theorem eS(I:Nat→AQ→Prop)
  (a7:∀n s,I n s→AR (Ae pg w) A (Jj it) (fun r s₁=>match r with
   |none=>R (.ok .next) s₁
   |some v=>AR (Ae pg w) A (Xj target it v) (fun zz a0=>AR (Ae pg w) A (Fh target env v) (fun zz s₂=>
     AR (Ae pg w) A (forIn b3 true fun c r=>if r=true then do let ok ←isTrue c env (A0 c env);pure (QD ok)else pure (QD r)) (fun ok a1=>
      if ok=true then AR (Ae pg w) A (A0 b2 env) (fun x a3=>AR (Ae pg w) A (call (.builtin "list.append") [b1,x]) (fun zz a2=>∃m,m<n∧I m a2) (fun zz zz=>False) a3) (fun zz zz=>False) a1
      else ∃m,m<n∧I m a1) (fun zz zz=>False) s₂) (fun zz zz=>False) a0) (fun zz zz=>False) s₁) (fun zz zz=>False) s)
  (n:Nat)(h:I n s):FA (Ae pg w) A (.compLoop (.ListComp b2 [⟨target,a6,b3,0⟩] scope b4) 0 it b1 env) R s:=by
 refine iC rfl I (fun n s hI=>?_) n h;show AR _ A ((TU (.ListComp b2 [⟨target,a6,b3,0⟩] scope b4) 0 it b1 env).onRaise (fun x=>do Nh x env;iD x)) _ _ s
 refine wpAny_noted ?_;rw[compTurn_list];refine AE (EJ (AE (AT (a7 n s hI) (fun r s₁ h₁=>?_) fun zz zz e=>DL e)));cases r with
 |none=>exact Ad h₁
 |some v=>
  refine AE (AT h₁ (fun zz a0 a5=>?_) fun zz zz e=>DL e);refine AE (AT a5 (fun zz s₂ b0=>AE (AT b0 (fun ok a1 a4=>?_) fun zz zz e=>DL e)) fun zz zz e=>DL e);cases ok with
  |false=>exact Ad ⟨rfl,a4⟩
  |true=>exact AE (AE (AT a4 (fun x a3 a9=>AE (AT a9 (fun zz a2 a8=>Ad (Ad ⟨rfl,a8⟩)) fun zz zz e=>DL e)) fun zz zz e=>DL e))
def Vs(A:Ab)(env:Af):List Expr→AW→AA→(Bool→AA→Prop)→Prop
 |[],_,σ,Φ=>Φ true σ
 |[c],ρ,σ,Φ=>TR A env c ρ σ Φ
 |_,_,_,_=>False
theorem Vs.run(t:Vs A env m ρ σ Φ)(S:St env ρ σ s.heap):
  AR (Ae pg w) A (forIn m true fun c r=>if r=true then do let ok ←isTrue c env (A0 c env);pure (QD ok)else pure (QD r)) (PB σ s Φ) (fun n n=>False) s:=by
 match m,t with
 |[],t=>exact wpAny_tests_nil ⟨σ,S.g,.refl _ _,t⟩
 |[c],t=>exact wpAny_tests_one (t s S)
theorem G.adopt{D:AB}{x:AO}(g:G σ h)(n:hb.get? D=none)(o:Eb w h D x):G (upd σ D x) h:=
 ⟨g.base,fun a y e=>by
  unfold upd at e;split at e
  ·rename_i q;subst q;obtain rfl:=An e;exact⟨n,o⟩
  ·exact g.own a y e⟩
theorem Ar.adopt{D:AB}{y:AO}(t:Ar σ s σ' s')(f:EW σ s D):Ar σ s (upd σ' D y) s':=by
 refine⟨t.evo,fun b q=>?_,t.gens,t.os⟩;unfold upd at q;split at q
 ·rename_i e;subst e;cases z:σ b with
  |none=>exact .inr (f z)
  |some _=>exact .inl (!Ag _)
 ·exact t.dom b q
def NT(h:A3)(b:AB):Prop:=∃o,h.get? b=some o∧¬(o.cls=.type "tuple"∧∃items n,o.data=.seq items n)
theorem G.kn{a0:List AB}(g:G σ s.heap)(k:Kp a0 s s')(hn:∀b∈a0,σ b=none)(hf:∀b∈a0,hb.get? b=none∧NT s.heap b):G σ s'.heap∧Bp s.heap s'.heap:=by
 have tk:Bp s.heap s'.heap:=fun b ob items n e c d=>by
  refine k.k b ob (fun m=>?_) e;refine RB (hf b m) fun zz o e' d'=>?_;obtain rfl:=An ((e.symm.trans e'));exact d' ⟨c,_,_,d⟩
 refine⟨⟨fun b o e=>k.k b o (fun m=>?_) (g.base b o e),fun a x e=>⟨(g.own a x e).1,?_⟩⟩,tk⟩
 ·exact Au ((((hf b m).1).symm.trans e))
 ·refine AI ((g.own a x e).2.there) fun ob q zz=>?_;exact(g.own a x e).2.keeps ((k.k _ _ (fun m=>!Au (((hn a m).symm.trans e))) q).trans q.symm) tk
theorem St.kn(S:St env ρ σ s.heap)(k:Kp n s s')(hn:∀b∈n,fx env σ b=none)(hf:∀b∈n,hb.get? b=none∧NT s.heap b):St env ρ σ s'.heap:=by
 have a0:=fun b m=>IL (hn b m);refine AL (S.g.kn k (fun b m=>(a0 b m).1) hf) fun g' tk=>?_;have kf:∀b∈fp env,∀o,s.heap.get? b=some o→s'.heap.get? b=some o:=fun b m o e=>k.k b o (fun q=>(a0 b q).2 m) e;refine⟨g',⟨?_,fun c hc=>?_,fun x av e q=>?_,S.l.apart,S.l.apart2⟩,S.nL,S.nC⟩
 ·refine PG S.l.ns fun m o es ep ho r hm=>?_;exact⟨m,⟨o,es,ep,kf _ (.head _) _ ho,r⟩,fun x av e q=>AI (hm x av e q) fun v a b=>⟨v,a,b.mono tk⟩⟩
 ·refine Cp (S.l.cell c hc) fun v o ho r=>?_;exact⟨v,o,kf _ (.tail _ hc) _ ho,r⟩
 ·refine OC (S.l.cellv x av e q) fun c v e1 o ho r rv=>?_;exact⟨c,v,e1,⟨o,kf _ (.tail _ (J7 e1 q)) _ ho,r⟩,rv.mono tk⟩
def BH.off(m:List AB):BH→Prop
 |.vals d _=>d∉m
 |_=>True
theorem Bo.kn(it:Bo w τ s.heap I a0 i)(k:Kp a1 s s')(tk:Bp s.heap s'.heap)
  (ne:∀b∈a1,∀o,s.heap.get? b=some o→∀xs,o.data≠.fields xs)(a9:a0.off a1):Bo w τ s'.heap I a0 i:=by
 have kf:∀{b o},s.heap.get? b=some o→(∃xs,o.data=.fields xs)→s'.heap.get? b=some o:=fun e a7=>AX a7 fun xs d=>k.k _ _ (fun m=>ne _ m _ e xs d) e;cases a0 with
 |list l=>refine LD it fun n o e c d=>?_;exact⟨n,o,kf e ⟨_,d⟩,c,d⟩
 |tup xs=>refine Sb it fun n t items m nt o e c d et rs=>?_;exact⟨n,t,items,m,nt,⟨o,kf e ⟨_,d⟩,c,d⟩,tk _ _ _ _ et rfl rfl,rs.mono tk⟩
 |range a m=>exact⟨it.1,kf it.2 ⟨_,rfl⟩⟩
 |enum l j=>refine RY it fun n n2 ne a8 e o e2 c d=>?_;exact⟨n,n2,ne,⟨a8,kf e ⟨_,rfl⟩⟩,o,kf e2 ⟨_,d⟩,c,d⟩
 |vals d xs=>
  refine AL it fun n a4=>Bx a4 fun kvs ep a3=>Bs a3 fun nd ne a6 a5=>B2 a6 fun o e c dt=>AL a5 fun a2 rs=>Cp a2 fun od es ed r=>?_;exact⟨n,kvs,ep,nd,ne,⟨o,kf e ⟨_,dt⟩,c,dt⟩,⟨od,es,k.k _ _ a9 ed,r⟩,rs.mono tk⟩
 |chars y=>refine MY it fun n t o e c d=>?_;exact⟨n,t,o,kf e ⟨_,d⟩,c,d⟩
structure CA(w:AD)(I:AB)(src:BH)(D C:AB)(τ:AA)(s:AQ)(i:Nat)(ys:List AV):Prop where
 it:Bo w τ s.heap I src i
 nD:τ D=none
 nC:τ C=none
 pl:∃vs,s.heap.PlainList D vs∧VRs s.heap ys vs.toList
 ns:∃m,s.heap.Ns C m
theorem Ar.ns(x:Ar τ s τ' s')(n:τ C=none)(h:∃m,s.heap.Ns C m):τ' C=none∧∃m,s'.heap.Ns C m:=by
 refine Rn h fun m o es ep ho hd r=>?_;refine AI (x.evo _ o ho n) fun o' a0 f=>?_;exact⟨x.dead ho n,m,o',es,ep,a0,f.data.trans hd,r⟩
theorem CA.step(c:CA w I m D C τ s i ys)(x:Ar τ s τ' s')(tk:Bp s.heap s'.heap):CA w I m D C τ' s' i ys:=by
 refine GC c.pl fun vs n e r=>?_;refine AL (x.kept c.nD e (fun zz zz q=>by cases q)) fun e' nD=>?_;refine AL (x.ns c.nC c.ns) fun nC ns=>?_;exact⟨c.it.step x tk,nD,nC,⟨vs,⟨n,e'⟩,r.mono tk⟩,ns⟩
theorem CA.kp(c:CA w I a0 D C τ s i ys)(k:Kp (a0.own I) s s')(tk:Bp s.heap s'.heap)(it:Bo w τ s'.heap I a0 j)(hD:D∉a0.own I)(hC:C∉a0.own I):CA w I a0 D C τ s' j ys:=by
 refine GC c.pl fun vs n e r=>?_;refine Jp c.ns fun m o es ep ho q=>?_;exact⟨it,c.nD,c.nC,⟨vs,⟨n,k.k _ _ hD e⟩,r.mono tk⟩,m,o,es,ep,k.k _ _ hC ho,q⟩
theorem CA.ntC(c:CA w I a0 D C τ s i ys):NT s.heap C∧∀o,s.heap.get? C=some o→∀xs,o.data≠.fields xs:=by
 refine Rn c.ns fun m o es ep ho hd q=>?_;exact⟨⟨o,ho,fun n=>Qt n fun zz zz zz d=>!(nomatch ((hd.symm.trans d)))⟩,fun o' e xs d=>by obtain rfl:=An ((ho.symm.trans e));exact(nomatch ((hd.symm.trans d)))⟩
theorem CA.ntD(c:CA w I a0 D C τ s i ys):NT s.heap D∧∀o,s.heap.get? D=some o→∀xs,o.data≠.fields xs:=by
 refine GC c.pl fun vs n e r=>?_;exact⟨⟨_,e,fun m=>AL m fun q zz=>by simp at q⟩,fun o' e' xs d=>by obtain rfl:=An ((e.symm.trans e'));exact nomatch d⟩
theorem St.adopt{D:AB}{x:AO}(S:St env ρ σ h)(n:hb.get? D=none)(f:D∉fp env)(o:Eb w h D x):St env ρ (upd σ D x) h:=by
 have ne:∀b∈fp env,b≠D:=fun b hb e=>f (e▸hb);exact⟨S.g.adopt n o,S.l,⟨by rw[Av _ _ (ne _ (.head _))];exact S.nL.1,S.nL.2⟩,fun c m=>⟨by rw[Av _ _ (ne _ (.tail _ m))];exact(S.nC c m).1,(S.nC c m).2⟩⟩
def tN(A:Ab)(env:Af)(scope:C1)(x:Str)(n:Expr)(a0:List Expr)(ρ:AW)(Inv:List AV→AA→Prop)(F:AB→AA→Prop)(ys:List AV):Option AV→AA→Prop
 |none,σ'=>∀D,σ' D=none→hb.get? D=none→F D (upd σ' D (.list ys))
 |some v,σ'=>∀C,Vs A (CQ scope env C) a0 (put (EC ρ) x v) σ' fun b σ₂=>if b then EV A (CQ scope env C) n (put (EC ρ) x v) σ₂ (fun y m=>Inv (ys++[y]) m)else Inv ys σ₂
inductive QV(A:Ab)(env:Af)(scope:C1)(x:Str)(elt:Expr)(ifs:List Expr)(ρ:AW)(Inv:Nat→List AV→AA→Prop)(F:AB→AA→Prop)(src:BH)(N i:Nat)(ys:List AV)(σ':AA):Prop
 |mk (hi:i≤N) (r:Option AV) (hr:src.nxt σ' i r) (q:tN A env scope x elt ifs ρ (Inv (i+1)) F ys r σ')
def Zcw{a0 a1 a2 a3 a4 a5 a6 a7 a8 a9 n b0 b1 m}{c:Prop}:=@QV.casesOn a0 a1 a2 a3 a4 a5 a6 a7 a8 a9 n b0 b1 m (fun _=>c)
inductive ML(A:Ab)(env:Af)(scope:C1)(x:Str)(px:A8)(elt:Expr)(ifs:List Expr)(ρ:AW)(F:AB→AA→Prop)(src:BH)(σ₁:AA):Prop
 |mk (ht:Hp src (.Name x px)) (N:Nat) (Inv:Nat→List AV→AA→Prop) (i0:Inv 0 [] σ₁) (hN:N≤1000000) (step:∀i ys σ',Inv i ys σ'→QV A env scope x elt ifs ρ Inv F src N i ys σ')
def Zay{n a1 a2 a3 a4 a5 a6 a7 a8 a9 m}{c:Prop}:=@ML.casesOn n a1 a2 a3 a4 a5 a6 a7 a8 a9 m (fun _=>c)
inductive Qw(env:Af)(ρ:AW)(σ:AA)(s:AQ)(I:AB)(src:BH)(D C:AB)(N:Nat)(Inv:Nat→List AV→AA→Prop)(n:Nat)(s':AQ):Prop
 |mk (i:Nat) (ys:List AV) (σ':AA) (hn:N<n+i) (hy:ys.length≤i) (inv:Inv i ys σ') (S:St env ρ σ' s'.heap) (t:Ar σ s σ' s') (ca:CA w I src D C σ' s' i ys)
def Zc6{a0 a1 a2 a3 a4 a5 a6 a7 a8 a9 m n}{c:Prop}:=@Qw.casesOn a0 a1 a2 a3 a4 a5 a6 a7 a8 a9 m n (fun _=>c)
theorem Bo.noown(it:Bo w σ h I n i)(ha:h.get? a=none):a∉n.own I:=fun m=>MU (it.fields a m) fun zz o xs e zz=>Au (ha.symm.trans e)
theorem Bo.nooff(it:Bo w σ h I n i)(ha:h.get? a=none):n.off [a]:=by
 cases n<;>try exact trivial
 refine AL it fun zz a3=>Bx a3 fun kvs ep a0=>Bs a0 fun zz zz zz a2=>AL a2 fun a1 zz=>Cp a1 fun od es ed zz=>?_;intro m;rw[Aq.mp m,ha]at ed;exact Au ed
theorem St.kn1{K:AB}(S:St env ρ σ s.heap)(k:Kp [K] s s')(n:σ K=none)(f:K∉fp env)(b:hb.get? K=none)(t:NT s.heap K):St env ρ σ s'.heap∧Bp s.heap s'.heap:=
 have n':∀b∈[K],fx env σ b=none:=fun b m=>by rw[Aq.mp m];exact JR n f
 have f':∀b∈[K],hb.get? b=none∧NT s.heap b:=fun c m=>by rw[Aq.mp m];exact⟨b,t⟩
 ⟨S.kn k n' f',(S.g.kn k (fun b m=>(IL (n' b m)).1) f').2⟩
theorem Kp.stp1{K:AB}(k:Kp [K] s' s'')(t:Ar σ s σ' s')(f:EW σ s K):Ar σ s σ' s'':=k.stp t (fun b m=>by rw[Aq.mp m];exact f)
theorem Z9{g0 b3:Expr}{x:Str}{px p0:A8}{h3:List Expr}{scope:C1}{i1:A8}{h1:Option (Value→Sem Unit)}{Q:Value→AQ→Prop}{FIN:AB→AA→Prop}(hh:A.handled=none)
  (hc:HX scope env x=true)(S:St env ρ σ s.heap)
  (k:BQ A env b3 ρ σ (ML A env scope x px g0 h3 ρ FIN))
  (fin:∀D C σ' s',FIN D σ'→σ' D≠none→D∉fp env→St env ρ σ' s'.heap→Ar σ s σ' s'→(∃m,s'.heap.Ns C m)→σ' C=none→C∉fp env→hb.get? C=none→EW σ s C→
   QE (Ae pg w) A (fun zz zz=>False) h1 Q (.ref D) C (.ok .next) s')
  (hs:autoParam (∀x,Gw b3 env x=pure x) aI):
  AR (Ae pg w) A (Xk (.ListComp g0 [⟨.Name x px,b3,h3,0⟩] scope i1) scope env p0 (TV []) false (A0 b3 env) h1) Q (fun zz zz=>False) s:=by
 have c:=xt hc;refine iE rfl hs (WZ fun p hp e=>(c.free p.1 (by rw[←e];exact hp)).2) c.kind (fun y hy e=>OR c.nd (by rw[←e];exact hy)) (AT (k s S) (fun v s₁ h₁=>AT h₁ (fun it s₂ k5=>Jb k5 fun I c2 a4 e1 g1 g9 g t l7=>Zay l7 fun ht N Inv i0 hN step=>?_) fun zz zz e=>e) fun zz zz e=>e);subst e1;have e8:St env ρ a4 s₂.heap:=S.step g t;have m0:=Oh S.g g9;refine Ni (wpAny_newFunctionEnv c.cell (by intro y hy;simp at hy) (fun h₁ b1 a6=>?_) c.kind) (by show([]:List Value).toArray.size≤Nj;rw[CG];exact Bc _);dsimp only at b1 a6 ⊢;generalize h6:s₂.heap.push {cls:=.type "list",dict:=none,data:=.seq ([]:List Value).toArray}=H2 at b1 a6 ⊢;have hC:H2.objs.size=s₂.heap.objs.size+1:=by rw[←h6,Jk]
 have h8:∀b o,s₂.heap.get? b=some o→b≠H2.objs.size∧b≠s₂.heap.objs.size:=fun b o e=>by
  have hb:=DJ e;exact⟨by rw[hC];exact Bm (Hx hb),Bm hb⟩
 have c5:∀b o,s₂.heap.get? b=some o→h₁.get? b=some o:=fun b o e=>a6.extBut b o (h8 b o e).1 (BC _ (h6▸BC _ e));have d4:s₂.heap.objs.size≠H2.objs.size:=by rw[hC];exact Bm (Nk _)
 have k0:h₁.PlainList s₂.heap.objs.size #[]:=⟨_,a6.extBut _ _ d4 (BC _ (h6▸Bz _ rfl))⟩;have b6:∀a,s₂.heap.objs.size≤a→s₂.heap.get? a=none:=fun a ha=>Ie ha;have c3:∀a,s₂.heap.get? a=none→a4 a=none:=fun a=>g.none1;have a5:∀a,s₂.heap.get? a=none→hb.get? a=none:=fun a=>g.noneb;have a9:∀a,s₂.heap.get? a=none→a∉fp env:=fun a=>e8.nofp;have b2:∀a,s₂.heap.get? a=none→a∉c2.own I:=fun a=>g1.noown;have c6:∀a,s₂.heap.get? a=none→c2.off [a]:=fun a=>g1.nooff;have eD:=b6 s₂.heap.objs.size (A9 _);have eC:=b6 H2.objs.size (by rw[hC];exact Gv _);generalize s₂.heap.objs.size=D at*;generalize H2.objs.size=C at*;have h5:Bp s₂.heap h₁:=fun a o zz zz e zz zz=>c5 a o e;have kk:∀a2:AQ,a2={s₂ with heap:=h₁,toks:=s₂.toks+([]:List (Str×Value)).length}→Ar a4 s₂ a4 a2:=fun a2 e=>by subst e;exact .keeps c5 rfl rfl
 have h9:St env ρ a4 h₁:=e8.step (s':={s₂ with heap:=h₁}) (g.keeps c5) (.keeps c5 rfl rfl);have d1:∀a2:AQ,a2={s₂ with heap:=h₁,toks:=s₂.toks+([]:List (Str×Value)).length}→CA w I c2 D C a4 a2 0 []:=fun a2 e=>by
  subst e;exact⟨g1.step (s':={s₂ with heap:=h₁}) (.keeps c5 rfl rfl) h5,c3 _ eD,c3 _ eC,⟨#[],k0,.nil⟩,_,b1⟩
 have hx:(CQ scope env C).kindOf x=some .local:=iF c.own;have i2:EW σ s D:=t.fresh eD;have k6:EW σ s C:=t.fresh eC;have e7:∀a2:AQ,a2={s₂ with heap:=h₁,toks:=s₂.toks+([]:List (Str×Value)).length}→
   FA (Ae pg w) A (.compLoop (.ListComp g0 [⟨.Name x px,b3,h3,0⟩] scope i1) 0 (.ref I) (.ref D) (CQ scope env C)) (QE (Ae pg w) A (fun zz zz=>False) h1 Q (.ref D) C) a2:=by
  intro a2 d3;refine eS (Qw env ρ σ s I c2 D C N Inv) (fun n s' l8=>Zc6 l8 fun i ys σ' hn hy m3 S' t' ca=>?_) (N+1)
   ⟨0,[],a4,!A9 _,!A9 _,i0,(by subst d3;exact h9),t.trans (kk _ d3),d1 _ d3⟩
  refine Zcw (step i ys σ' m3) fun f0 r hr q=>?_;have hf:=ca.it.fields;refine AT (Bo.next (target:=.Name x px) (E:=fun zz zz=>False) S'.g ca.it hh hr ht) (fun o a7 e4=>?_) fun zz zz e=>DL e
  have m4:=S'.ownfx hf;have KP:∀a7,Kp (c2.own I) s' a7→St env ρ σ' a7.heap∧Bp s'.heap a7.heap:=fun a7 kp=>have H:=fun b m=>⟨m0 b m,(hf b m).2⟩;⟨S'.kp kp m4 H,(S'.g.kp kp (fun b m=>(hf b m).1) H).2⟩;cases o with
  |none=>
   refine AL e4 fun e kp=>?_;subst e;refine AL (KP _ kp) fun k7 f1=>?_;refine GC ca.pl fun vs n' el rs=>?_;refine Jp ca.ns fun m' oC f3 g2 h0 qC=>?_;have oD:Eb w a7.heap D (.list ys):=⟨vs,n',kp.k _ _ (b2 D eD) el,rs.mono f1⟩;refine fin D C (upd σ' D (.list ys)) a7 (q D ca.nD (a5 D eD)) (by rw[Ao];exact Ag _) (a9 D eD) (k7.adopt (a5 D eD) (a9 D eD) oD) ((kp.stp t' g9).adopt i2) ⟨m',oC,f3,g2,kp.k _ _ (b2 C eC) h0,qC⟩ (by rw[Av _ _ (Ne.symm d4)];exact ca.nC) (a9 C eC) (a5 C eC) k6
  |some v=>
   refine AT e4 (fun zz a1 z=>NU z fun av e rx d5 kp=>?_) fun zz zz e=>DL e;subst e;refine AL (KP _ kp) fun l6 h4=>?_;have a0:=ca.kp kp h4 d5 (b2 D eD) (b2 C eC);have l0:=kp.stp t' g9;refine AX a0.ns fun m5 f5=>?_;refine Py (Xb hx f5 (fun a8 b7 e0=>?_) (by simp[Lp,Gx,c.kind]));have kC:Kp [C] a1 {a1 with heap:=a8,toks:=a1.toks+1}:=⟨fun b o hb e=>e0.extBut b o (fun h=>hb (Aq.mpr h)) e,rfl,rfl⟩;refine AL (l6.kn1 kC a0.nC (a9 C eC) (a5 C eC) a0.ntC.1) fun c8 b4=>?_;have e9:=kC.stp1 l0 k6;have c9:CA w I c2 D C σ' {a1 with heap:=a8,toks:=a1.toks+1} (i+1) ys:=by
    refine GC a0.pl fun vs n' el rs=>?_;exact⟨a0.it.kn kC b4 (fun b m=>by rw[Aq.mp m];exact a0.ntC.2) (c6 C eC),a0.nD,a0.nC,⟨vs,⟨n',kC.k _ _ (by simpa using d4) el⟩,rs.mono b4⟩,_,b7⟩
   have Sc:St (CQ scope env C) (put (EC ρ) x av) σ' a8:=c8.comp c b7 (if_pos rfl) (rx.mono b4) c9.nC (a5 C eC) (fun m=>a9 C eC (.tail _ m));refine AT ((q C).run (s:={a1 with heap:=a8,toks:=a1.toks+1}) Sc) (fun ok l4 m1=>E0 m1 fun σ₂ c4 b0 e5=>?_) fun zz zz e=>DL e;have g3:=b0.evo.tup c8.g;have d2:=c9.step b0 g3;have e2:=c8.step (s:={a1 with heap:=a8,toks:=a1.toks+1}) c4 b0;have h7:=Sc.step (s:={a1 with heap:=a8,toks:=a1.toks+1}) c4 b0;cases ok with
   |false=>exact⟨n-1,!o8 hn f0,i+1,ys,σ₂,!o6 hn,!GU hy,e5,e2,e9.trans b0,d2⟩
   |true=>
    refine AT (e5 l4 h7) (fun y e6 m2=>BG m2 fun ay h2 l5 k3 c1 k9=>?_) fun zz zz e=>DL e;have f4:=c1.evo.tup c4;have a3:=d2.step c1 f4;have k2:=e2.step k3 c1;refine GC a3.pl fun vs n' el rs=>?_;refine Xl ⟨n',el⟩ (fun l3 f2 d6=>?_) (by have e1:=rs.length;rw[Gs]at e1;have e3:ys.length≤1000000:=AK hy (AK f0 hN);rw[CG];rw[show vs.size=ys.length from e1.symm];exact AK e3 ⋯);have kD:Kp [D] e6 {e6 with heap:=l3}:=⟨fun b o hb e=>d6.extBut b o (fun h=>hb (by simp[h])) e,rfl,rfl⟩;refine AL (k2.kn1 kD a3.nD (a9 D eD) (a5 D eD) a3.ntD.1) fun k4 b5=>?_;have k1:=kD.stp1 (e9.trans (b0.trans c1)) i2;refine Jp a3.ns fun k8 oC f3 g2 h0 qC=>?_;refine⟨n-1,!o8 hn f0,i+1,ys++[ay],h2,!o6 hn,by simp;exact hy,k9,k4,k1,a3.it.kn kD b5 (fun b m=>by rw[Aq.mp m];exact a3.ntD.2) (c6 D eD),a3.nD,a3.nC,⟨vs.push y,f2,?_⟩,k8,oC,f3,g2,kD.k _ _ (by simpa using Ne.symm d4) h0,qC⟩;rw[QF];exact(rs.mono b5).append (.one (l5.mono b5))
 exact iG (e7 _ rfl) (S7 (d1 _ rfl).it (e7 _ rfl))
theorem Qi{m}(hn:h.Ns C m):NT h C:=by
 refine O0 hn fun o es ep ho hd q=>?_;exact⟨o,ho,fun n=>Qt n fun zz zz zz d=>!(nomatch ((hd.symm.trans d)))⟩
theorem Sx(hh:A.handled=none)
  (k:BQ A env n ρ σ (ML A env scope x px a1 a4 ρ (fun D=>Φ (.ref D))))
  (hc:HX scope env x=true)(hs:autoParam (∀x,Gw n env x=pure x) aI):
  EV A env (.ListComp a1 [⟨.Name x px,n,a4,0⟩] scope a5) ρ σ Φ:=fun s S=>by
 show AR _ _ _ _ _ _;rw[eval_ListComp];refine Z9 (FIN:=fun D σ'=>Φ (.ref D) σ') hh hc S k (fun D C σ' s' q hD a6 S' t a2 nC fC bC a0=>?_) hs;refine AX a2 fun m hn=>?_;refine⟨m,hn,fun h' a3=>?_⟩;have kC:Kp [C] s' {s' with heap:=h'}:=⟨fun b o hb e=>a3.extBut b o (fun h=>hb (Aq.mpr h)) e,rfl,rfl⟩;refine AL (S'.g.kn kC (fun b m=>by rw[Aq.mp m];exact nC) (fun b m=>by rw[Aq.mp m];exact⟨bC,Qi hn⟩)) fun g tk=>?_;exact⟨.ref D,σ',.ref _,g,kC.stp t (fun b m=>by rw[Aq.mp m];exact a0),q⟩
theorem XG(hh:A.handled=none)
  (k:BQ A env a1 ρ σ (ML A env scope x px a4 a5 ρ (fun D σ'=>AP A env (Fh (.Name y py) env) (.ref D) ρ σ' (fun a0 σ₂=>Φ .next a0 σ₂))))
  (hc:HX scope env x=true)
  (b1:autoParam (Px (.ListComp a4 [⟨.Name x px,a1,a5,0⟩] scope a8) (some (.Name y py)) a9.line env=pure true) aR)
  (hs:autoParam (∀x,Gw a1 env x=pure x) aI):
  Eg A env (.Assign [.Name y py] (.ListComp a4 [⟨.Name x px,a1,a5,0⟩] scope a8) a9) ρ σ Φ:=fun s S=>by
 show AR _ _ (GR _ _) _ _ _;rw[exec_Assign_Name_used _ _ _ _ b1];refine AE (EJ (AE ?_));show AR _ A (do let _ ←Xk (.ListComp a4 [⟨.Name x px,a1,a5,0⟩] scope a8) scope env _ (TV []) false (A0 a1 env) (some (Fh (.Name y py) env))) _ _ s
 refine AE (Z9 (FIN:=fun D σ'=>AP A env (Fh (.Name y py) env) (.ref D) ρ σ' (fun a0 σ₂=>Φ .next a0 σ₂)) hh hc S k (fun D C σ' s' q hD b6 S' t b4 nC fC bC b2=>?_) hs)
 refine AT (q s' _ S' (.ref D)) (fun zz s'' b3=>Je b3 fun a0 σ₂ a7 a2 b0=>?_) fun zz zz e=>e;refine Fw (a2.ns (JR nC fC) b4) fun a3 m hn=>?_;refine⟨m,hn,fun h' b5=>?_⟩;have kC:Kp [C] s'' {s'' with heap:=h'}:=⟨fun b o hb e=>b5.extBut b o (fun h=>hb (Aq.mpr h)) e,rfl,rfl⟩;have a6:=a7.kn kC (fun b m=>by rw[Aq.mp m];exact a3) (fun b m=>by rw[Aq.mp m];exact⟨bC,Qi hn⟩);refine Ad (Ad ⟨.next,a0,σ₂,trivial,a6,?_,b0⟩)
 refine kC.stp (t.toF.trans a2) (fun b m n=>?_);rw[Aq.mp m]at n ⊢;exact b2 (IL n).1
def BH.has(m:BH)(σ:AA)(xs:List AV):Prop:=∀i,m.nxt σ i xs[i]?
theorem Pk(e:σ l=some (.list xs)):(BH.list l).has σ xs:=fun i=>⟨xs,e,rfl⟩
theorem Ss:(BH.tup xs).has σ xs:=fun i=>rfl
theorem Zbc:(BH.vals d xs).has σ xs:=fun i=>rfl
theorem XJ:(BH.range a n).has σ ((B3 n).map fun(i:Nat)=>.int (a+i)):=fun i=>by
 show _=_;rw[CH];by_cases h:i<n
 ·rw[if_pos h,iI h];rfl
 ·rw[if_neg h,Lq (by simpa using h)];rfl
inductive SI(A:Ab)(env:Af)(scope:C1)(x:Str)(px:A8)(elt:Expr)(ρ:AW)(Φ:AV→AA→Prop)(src:BH)(σ₁:AA):Prop
 |mk (ht:Hp src (.Name x px)) (xs:List AV) (hx:src.has σ₁ xs) (hl:xs.length≤1000000) (f:AV→AV) (kf:∀v∈xs,∀C,EV A (CQ scope env C) elt (put (EC ρ) x v) σ₁ fun y σ₃=>y=f v∧σ₃=σ₁) (q:∀D,σ₁ D=none→hb.get? D=none→Φ (.ref D) (upd σ₁ D (.list (xs.map f))))
def Zcr{m a1 a2 a3 n a5 a6 a7 a8 a9}{c:Prop}:=@SI.casesOn m a1 a2 a3 n a5 a6 a7 a8 a9 (fun _=>c)
inductive Rd(A:Ab)(env:Af)(scope:C1)(x:Str)(px:A8)(c elt:Expr)(ρ:AW)(Φ:AV→AA→Prop)(src:BH)(σ₁:AA):Prop
 |mk (ht:Hp src (.Name x px)) (xs:List AV) (hx:src.has σ₁ xs) (hl:xs.length≤1000000) (p:AV→Bool) (f:AV→AV) (kp:∀v∈xs,∀C,TR A (CQ scope env C) c (put (EC ρ) x v) σ₁ fun b σ₃=>b=p v∧σ₃=σ₁)
   (kf:∀v∈xs,p v=true→∀C,EV A (CQ scope env C) elt (put (EC ρ) x v) σ₁ fun y σ₃=>y=f v∧σ₃=σ₁) (q:∀D,σ₁ D=none→hb.get? D=none→Φ (.ref D) (upd σ₁ D (.list ((xs.filter p).map f))))
def Zc5{n a1 a2 a3 a4 a5 a6 a7 a8 a9 m}{c:Prop}:=@Rd.casesOn n a1 a2 a3 a4 a5 a6 a7 a8 a9 m (fun _=>c)
theorem Pi(hh:A.handled=none)
  (k:BQ A env n ρ σ (SI A env scope x px a3 ρ Φ))
  (hc:HX scope env x=true)(hs:autoParam (∀x,Gw n env x=pure x) aI):
  EV A env (.ListComp a3 [⟨.Name x px,n,[],0⟩] scope a9) ρ σ Φ:=
 Sx hh (fun s S=>AT (k s S) (fun v s₁ h₁=>AT h₁ (fun it s₂ a1=>Jb a1 fun I a2 m e1 a4 a6 g t a7=>Zcr a7 fun ht xs hx hl f kf q=>⟨I,a2,m,e1,a4,a6,g,t,ht,xs.length,fun i ys σ'=>σ'=m∧ys=(xs.take i).map f∧i≤xs.length,
  ⟨rfl,rfl,Bc _⟩,hl,fun i ys σ' a0=>BN a0 fun e1 e2 e3=>⟨e3,xs[i]?,e1▸hx i,by
   subst e1 e2;cases z:xs[i]? with
   |none=>
    have:xs.length≤i:=GV.mp z;rw[Ig this];exact q
   |some v=>
    refine AX (BX.mp z) fun hi hv=>?_;intro C;refine(kf v (hv▸TW hi) C).mono fun y a8 a5=>AL a5 fun e1 e2=>⟨e2,?_,hi⟩;rw[Gy,z,e1];simp⟩⟩) fun zz zz e=>e) fun zz zz e=>e) hc hs
theorem Pp(hh:A.handled=none)
  (k:BQ A env n ρ σ (Rd A env scope x px c b0 ρ Φ))
  (hc:HX scope env x=true)(hs:autoParam (∀x,Gw n env x=pure x) aI):
  EV A env (.ListComp b0 [⟨.Name x px,n,[c],0⟩] scope b6) ρ σ Φ:=
 Sx hh (fun s S=>AT (k s S) (fun v s₁ h₁=>AT h₁ (fun it s₂ a1=>Jb a1 fun I a9 m e1 b1 b3 g t a0=>Zc5 a0 fun ht xs hx hl p f kp kf q=>⟨I,a9,m,e1,b1,b3,g,t,ht,xs.length,fun i ys σ'=>σ'=m∧ys=((xs.take i).filter p).map f∧i≤xs.length,
  ⟨rfl,rfl,Bc _⟩,hl,fun i ys σ' a4=>BN a4 fun e1 e2 e3=>⟨e3,xs[i]?,e1▸hx i,by
   subst e1 e2;cases z:xs[i]? with
   |none=>
    have:xs.length≤i:=GV.mp z;rw[Ig this];exact q
   |some v=>
    refine AX (BX.mp z) fun hi hv=>?_;intro C;have hm:v∈xs:=hv▸TW hi;intro a5 a2;refine AT (kp v hm C a5 a2) (fun b b5 a7=>E0 a7 fun σ₂ a6 a3 a8=>AL a8 fun e1 e2=>⟨σ₂,a6,a3,?_⟩) fun zz zz e=>e;subst e1 e2;have tk:(xs.take (i+1)).filter p=(xs.take i).filter p++(if p v then[v]else[]):=by
     rw[Gy,z,iJ];cases hp:p v<;>simp[hp]
    cases hp:p v with
    |false=>rw[hp]at tk;exact⟨rfl,by rw[tk];simp,hi⟩
    |true=>
     rw[hp]at tk;refine(kf v hm hp C).mono fun y b4 b2=>AL b2 fun e1 e2=>⟨e2,?_,hi⟩;rw[tk,e1];simp⟩⟩) fun zz zz e=>e) fun zz zz e=>e) hc hs
theorem Mp(g:G σ s.heap)(r:VR s.heap m v)(q:Φ m σ)(k:Nat):
  (PV σ s Φ) v {s with toks:=k}:=⟨m,σ,r,g,.toks _,q⟩
theorem Jd(q:Φ (.int (a+b)) σ):AM A (KU .Add) (.int a) (.int b) σ Φ:=fun s u v g r1 r2=>by
 refine AX (VR.inv_int r1) fun zz m=>?_;subst m;refine AX (VR.inv_int r2) fun zz n=>?_;subst n;exact wpAny_add_int (Mp g (.int _ _) q _)
theorem NL(q:Φ (.int (a-b)) σ):AM A (KU .Sub) (.int a) (.int b) σ Φ:=fun s u v g r1 r2=>by
 refine AX (VR.inv_int r1) fun zz m=>?_;subst m;refine AX (VR.inv_int r2) fun zz n=>?_;subst n;exact PyProof.Rows.sub_int (Mp g (.int _ _) q _)
theorem Zbf(hm:IntMulOk a b)(q:Φ (.int (a*b)) σ):AM A (KU .Mult) (.int a) (.int b) σ Φ:=fun s u v g r1 r2=>by
 refine AX (VR.inv_int r1) fun zz n=>?_;subst n;refine AX (VR.inv_int r2) fun zz m=>?_;subst m;exact PyProof.Rows.mul_int (Mp g (.int _ _) q _) hm
theorem Pq(n:b≠0)(q:Φ (.int (a.fmod b)) σ):AM A (KU .Mod) (.int a) (.int b) σ Φ:=fun s u v g r1 r2=>by
 refine AX (VR.inv_int r1) fun zz a0=>?_;subst a0;refine AX (VR.inv_int r2) fun zz m=>?_;subst m;exact PyProof.Rows.mod_int' n (Mp g (.int _ _) q _)
theorem Zc9(a0:b≠0)(ha:a.natAbs<100000)(a1:b.natAbs<100000)(q:Φ (.int (a.fdiv b)) σ):AM A (KU .FloorDiv) (.int a) (.int b) σ Φ:=fun s u v g r1 r2=>by
 refine AX (VR.inv_int r1) fun zz n=>?_;subst n;refine AX (VR.inv_int r2) fun zz m=>?_;subst m;exact PyProof.Rows.floordiv_int a0 (Mp g (.int _ _) q _) (Or.inl (PyProof.noPylong_small (!ln a1 rfl)))
theorem HH(q:Φ (.bool (decide (a=b))) σ):AM A (Dx .Eq) (.int a) (.int b) σ Φ:=fun s u v g r1 r2=>by
 refine AX (VR.inv_int r1) fun zz n=>?_;subst n;refine AX (VR.inv_int r2) fun zz m=>?_;subst m;exact PyProof.Rows.eq_int ⟨.bool _,σ,by rw[show(a==b)=decide (a=b)from rfl];exact .bool _,g,.refl _ _,q⟩
theorem NO(q:Φ (.bool (not (decide (a=b)))) σ):AM A (Dx .NotEq) (.int a) (.int b) σ Φ:=fun s u v g r1 r2=>by
 refine AX (VR.inv_int r1) fun zz n=>?_;subst n;refine AX (VR.inv_int r2) fun zz m=>?_;subst m;exact PyProof.Rows.ne_int ⟨.bool _,σ,by rw[show(a != b)= not (decide (a=b))from rfl];exact .bool _,g,.refl _ _,q⟩
theorem NP(q:Φ (.bool (decide (a<b))) σ):AM A (Dx .Lt) (.int a) (.int b) σ Φ:=fun s u v g r1 r2=>by
 refine AX (VR.inv_int r1) fun zz n=>?_;subst n;refine AX (VR.inv_int r2) fun zz m=>?_;subst m;exact PyProof.Rows.lt_int ⟨.bool _,σ,.bool _,g,.refl _ _,q⟩
theorem KQ(q:Φ (.bool (decide (b<a))) σ):AM A (Dx .Gt) (.int a) (.int b) σ Φ:=fun s u v g r1 r2=>by
 refine AX (VR.inv_int r1) fun zz n=>?_;subst n;refine AX (VR.inv_int r2) fun zz m=>?_;subst m;exact PyProof.Rows.gt_int ⟨.bool _,σ,.bool _,g,.refl _ _,q⟩
theorem XQ(q:Φ (.bool (decide (a≤b))) σ):AM A (Dx .LtE) (.int a) (.int b) σ Φ:=fun s u v g r1 r2=>by
 refine AX (VR.inv_int r1) fun zz m=>?_;subst m;refine AX (VR.inv_int r2) fun zz n=>?_;subst n;exact PyProof.Rows.le_int ⟨.bool _,σ,.bool _,g,.refl _ _,q⟩
theorem Pf(q:Φ (.int (-a)) σ):J9 A (unaryOp .USub) (.int a) σ Φ:=fun s u g n=>by
 refine AX (VR.inv_int n) fun zz m=>?_;subst m;exact PyProof.Rows.neg_int (Mp g (.int _ _) q _)
theorem ga{x:AV}{b:Bool}{Φ:AV→AA→Prop}(e:∀h v,VR h x v→(v== .none)=b)(q:Φ (.bool b) σ):AM A (Dx .Is) x .none σ Φ:=fun s u v g n m=>by
 obtain rfl:=XN m;exact is_none ⟨.bool b,σ,by rw[e _ _ n];exact .bool _,g,.refl _ _,q⟩
theorem Zbg(q:Φ (.bool (not ((a==b)))) σ):AM A (Dx .IsNot) (.bool a) (.bool b) σ Φ:=fun s u v g n m=>by
 obtain rfl:=Po n;obtain rfl:=Po m;exact wpAny_isNot_plain rfl ⟨.bool (not ((a==b))),σ,by cases a<;>cases b<;>exact .bool _,g,.refl _ _,q⟩
theorem Jc(q:Φ (.bool (a==b)) σ):AM A (Dx .Eq) (.str a) (.str b) σ Φ:=fun s u v g r1 r2=>by
 refine AX (VR.inv_str r1) fun zz n=>?_;subst n;refine AX (VR.inv_str r2) fun zz m=>?_;subst m;exact PyProof.Rows.eq_str ⟨_,σ,.bool _,g,.refl _ _,q⟩
theorem Zcp(q:Φ (.bool (a != b)) σ):AM A (Dx .NotEq) (.str a) (.str b) σ Φ:=fun s u v g r1 r2=>by
 refine AX (VR.inv_str r1) fun zz n=>?_;subst n;refine AX (VR.inv_str r2) fun zz m=>?_;subst m;exact PyProof.Rows.ne_str ⟨_,σ,.bool _,g,.refl _ _,q⟩
theorem VRs.toArr{items:Array Value}(r:VRs h xs items.toList):items.size=xs.length:=by rw[r.length,Gs]
theorem VRs.appendA{a b:Array Value}(r:VRs h xs a.toList)(q:VRs h ys b.toList):VRs h (xs++ys) (a++b).toList:=by rw[Array.toList_append];exact r.append q
theorem NN(hl:xs.length+ys.length≤100000)(q:Φ (.tup (xs++ys)) σ):AM A (KU .Add) (.tup xs) (.tup ys) σ Φ:=fun s u v g r1 r2=>by
 refine Ja r1 fun a i1 n1 m q1=>Ja r2 fun b i2 n2 n q2=>?_;have l1:=q1.toArr;have l2:=q2.toArr;by_cases h1:i1.isEmpty=true
 ·have z:xs=[]:=Lh (by rw[←l1];simpa using h1);subst z;refine concat_meets ⟨_,m,rfl⟩ ⟨_,n,rfl⟩ noFill_tuple_add seq_tuple_add F.slot_tuple_add F.entry_tuple_add (F.args_tuple_add_2 _ _) (tuple_addW0 a b i1 i2 n1 n2 none none #[] #[] h1) ⟨m,n,?_⟩;exact⟨.tup ys,σ,.tup n q2,g,.refl _ _,q⟩
 ·by_cases h2:i2.isEmpty=true
  ·have z:ys=[]:=Lh (by rw[←l2];simpa using h2);subst z;refine concat_meets ⟨_,m,rfl⟩ ⟨_,n,rfl⟩ noFill_tuple_add seq_tuple_add F.slot_tuple_add F.entry_tuple_add (F.args_tuple_add_2 _ _) (tuple_addW1 a b i1 i2 n1 n2 none none #[] #[] h1 h2) ⟨m,n,?_⟩;exact⟨.tup xs,σ,.tup m q1,g,.refl _ _,by rw[TX]at q;exact q⟩
  ·refine P.add_tuple m n h1 h2 ⟨.tup (xs++ys),σ,.tup (Bz _ rfl) ((q1.appendA q2).mono fun zz zz zz zz e zz zz=>BC _ e),g.push _,.push _,q⟩ (by rw[CG];exact Cb UG hl l1 l2)
theorem KN(e1:σ a=some (.list xs))(e2:σ b=some (.list ys))(hl:xs.length+ys.length≤100000)
  (q:∀D,σ D=none→hb.get? D=none→Φ (.ref D) (upd σ D (.list (xs++ys)))):AM A (KU .Add) (.ref a) (.ref b) σ Φ:=fun s u v g r1 r2=>by
 obtain rfl:=VR.inv_ref r1;obtain rfl:=VR.inv_ref r2;refine Ci ((g.own _ _ e1).2) fun i1 n1 o1 n=>?_;refine Ci ((g.own _ _ e2).2) fun i2 n2 o2 q2=>?_;have l1:=n.toArr;have l2:=q2.toArr;refine P.add_list o1 o2 ⟨.ref _,upd σ s.heap.objs.size (.list (xs++ys)),.ref _,g.pushOwn _ ⟨_,_,Bz _ rfl,(n.appendA q2).mono fun m m m m e m m=>BC _ e⟩,.pushOwn _ _,q _ g.fresh.1 g.fresh.2⟩ (by rw[CG];exact Cb UG hl l1 l2)
theorem E7(e:σ l=some (.list xs))(hl:xs.length≤100000)(q:Φ .none (upd σ l (.list (xs++[x])))):
  AF A (.builtin "list.append") [.ref l,x] σ Φ:=fun s vs g r=>by
 refine Sn r fun v r2=>?_;refine Ci ((g.own _ _ e).2) fun items n o qs=>?_;have l1:=qs.toArr;refine Xl ⟨n,o⟩ (fun h' m hs=>AX m fun n' o'=>⟨.none,_,.none,g.set (y:=.list (xs++[x])) e hs fun tk=>⟨_,n',o',by rw[QF];exact(qs.mono tk).append (.one (r2.mono tk))⟩,.set e hs rfl rfl,q⟩) (by rw[CG];exact ln (AK (Ac l1) hl) rfl)
set_option tactic.hygienic true in
theorem FJ(e:σ l=some (.list (xs++[x])))(hl:xs.length≤100000)(q:Φ x (upd σ l (.list xs))):
  AF A (.builtin "list.pop") [.ref l] σ Φ:=fun s vs g r=>by
 refine Jf r ?_;refine Ci ((g.own _ _ e).2) fun items n o qs=>?_;have l1:=qs.toArr;rw[BJ,C5]at l1;refine Ec qs.split fun us ws e2 ru a0=>?_;cases a0 with
 |cons rx rn=>
  cases rn;rename_i v;have hy:items[items.size-1]? =some v:=by
   rw[←Dp,e2,l1,ru.length];simp
  refine call_meets FO ⟨_,o,rfl⟩ F.entry_list_pop (F.args_list_pop_1 _) (PySem.MeetsSeq.list_pop_last l items n v hy (by rw[CG];exact ln (AK (Ac l1) (CD hl)) rfl)) ⟨o,?_⟩;have hs:E9 l s.heap (s.heap.update l (DV fun xs=>xs.eraseIdxIfInBounds (items.size-1))):=Ei ..;have tk:Bp s.heap _:=fun b ob it m e' c d=>(hs.2 b (by rintro rfl;obtain rfl:=An ((o.symm.trans e'));simp at c)).trans e';refine⟨x,upd σ l (.list xs),rx.mono tk,g.set (y:=.list xs) e hs fun tk=>⟨items.eraseIdxIfInBounds (items.size-1),_,GS _ o rfl,?_⟩,.set e hs rfl rfl,q⟩;have:(items.eraseIdxIfInBounds (items.size-1)).toList=us:=by
   rw[show items=(us++[v]).toArray from by rw[←e2]];rw[show((us++[v]).toArray).size-1=us.length by simp];rw[show(us++[v]).toArray.eraseIdxIfInBounds us.length=((us++[v]).eraseIdx us.length).toArray by simp];rw[List.eraseIdx_append_of_length_le (A9 _)];simp
  rw[this];exact ru.mono tk
theorem gN(e:σ l=some (.list xs))(e2:σ b=some (.list ys))(hl:xs.length+ys.length≤100000)(q:Φ .none (upd σ l (.list (xs++ys)))):
  AF A (.builtin "list.extend") [.ref l,.ref b] σ Φ:=fun s vs g r=>by
 refine Sn r fun v r2=>?_;obtain rfl:=VR.inv_ref r2;refine Ci ((g.own _ _ e).2) fun items n o qs=>?_;refine Ci ((g.own _ _ e2).2) fun m n2 o2 a1=>?_;have l1:=qs.toArr;have l2:=a1.toArr;have a0:¬(not (items.isEmpty)&&iK (items.size+m.size))=true:=by
  have:iK (items.size+m.size)=false:=by
   unfold iK;rw[CG];simp;exact Cb UG hl l1 l2
  rw[this];simp
 refine call_meets iL ⟨_,o,rfl⟩ F.entry_list_extend (F.args_list_extend_2 _ _) (AutoSeq1.list_extend_list_list_0 l items n b m n2 a0 (by rw[CG];exact BS zH hl l1) (by rw[CG];exact Cb o86 hl l1 l2)) ⟨o,o2,?_⟩;have hs:E9 l s.heap (s.heap.update l (DV fun xs=>xs++m)):=Ei ..;exact⟨.none,_,.none,g.set (y:=.list (xs++ys)) e hs fun tk=>⟨items++m,_,GS _ o rfl,(qs.mono tk).appendA (a1.mono tk)⟩,.set e hs rfl rfl,q⟩
theorem Ce(e:σ l=some (.list xs))(hl:xs.length≤1000000)(q:Φ (.int xs.length) σ):AF A (.builtin "len") [.ref l] σ Φ:=fun s vs g r=>by
 refine Jf r ?_;refine Ci ((g.own _ _ e).2) fun items n o m=>?_;have l1:=m.toArr;refine Calls.call_len_list ⟨_,o,rfl,n,rfl⟩ (by rw[l1];exact Q4 hl) ⟨.int xs.length,σ,by rw[l1];exact .int _ _,g,.toks _,q⟩
theorem Zc4(hl:xs.length≤1000000)(q:Φ (.int xs.length) σ):AF A (.builtin "len") [.tup xs] σ Φ:=fun s vs g r=>by
 refine gO r fun a items n e m=>?_;have l1:=m.toArr;exact P.len_tuple e (by rw[l1];exact Int.not_le.mpr (Q4 hl)) ⟨.int xs.length,σ,by rw[l1];exact .int _ _,g,.toks _,q⟩
section
variable {K:Type} [DecidableEq K] {V:Type}
def AH(es:List (K×V))(k:K):Option V:=(es.find? fun p=>p.1=k).map (·.2)
def Aw(es:List (K×V))(k:K)(v:V):List (K×V):=if(AH es k).isSome then es.map fun p=>if p.1=k then(p.1,v)else p else es++[(k,v)]
def BP(es:List (K×V))(k:K):List (K×V):=es.filter fun p=>decide (p.1≠k)
theorem FT{p:K×V}{k:K}:AH (p::es) k=if p.1=k then some p.2 else AH es k:=by
 unfold AH;rw[Xm];by_cases e:p.1=k<;>simp[e]
theorem Cn.look:∀{es:List (K×AV)}{kvs:List (K×Value)}(r:Cn h es kvs)(k:K),(AH es k=none→Lr kvs k=none)∧∀x,AH es k=some x→∃v,Lr kvs k=some v∧VR h x v
 :=fun r k=>by
  induction r with
  |nil=>exact⟨fun zz=>rfl,fun x e=>by simp[AH]at e⟩
  |@cons k' x v _ _ r rs m=>
  have n:∀kvs:List (K×Value),Lr ((k',v)::kvs) k=if k'=k then some v else Lr kvs k:=fun kvs=>by
   unfold Lr;rw[Xm];by_cases e:k'=k<;>simp[e]
  rw[FT,n];by_cases e:k'=k
  ·simp only[if_pos e];exact⟨fun q=>by simp at q,fun y q=>by obtain rfl:=An q;exact⟨v,rfl,r⟩⟩
  ·simp only[if_neg e];exact m
theorem Cn.length:∀{es:List (K×AV)}{kvs:List (K×Value)},Cn h es kvs→es.length=kvs.length:=fun r=>by induction r with|nil=>rfl|cons _ _ m=>exact congrArg (· +1) m
theorem Cn.app:∀{es m:List (K×AV)}{kvs n:List (K×Value)},Cn h es kvs→Cn h m n→Cn h (es++m) (kvs++n):=fun r q=>by induction r with|nil=>exact q|cons a _ ih=>exact .cons a ih
theorem Cn.mapPut(r:VR h x v):∀{es:List (K×AV)}{kvs:List (K×Value)},Cn h es kvs→Cn h (es.map fun p=>if p.1=k then(p.1,x)else p) (kvs.map fun p=>if p.1=k then(p.1,v)else p)
 :=fun q=>by
  induction q with
  |nil=>exact .nil
  |@cons k' _ _ _ _ a _ m=>
   rw[CB,CB];by_cases e:k'=k
   ·simp only[if_pos e];exact .cons r m
   ·simp only[if_neg e];exact .cons a m
theorem ku{k:K}:(kvs.any fun m=>m.1=k)=(Lr kvs k).isSome:=by
 unfold Lr;rw[Option.isSome_map]
 induction kvs with
 |nil=>rfl
 |cons p r n=>
  rw[List.any_cons,Xm];by_cases e:p.1=k<;>simp[e,n]
theorem Cn.put{h:A3}{es:List (K×AV)}(r:Cn h es kvs){k:K}{x:AV}{v:Value}(q:VR h x v):Cn h (Aw es k x) (stored kvs k v):=by
 have l:=r.look k;unfold Aw stored;rw[ku];cases e:AH es k with
 |none=>
  rw[l.1 e];exact r.app (.cons q .nil)
 |some y=>
  refine AI (l.2 y e) fun v' m n=>?_;rw[m];exact r.mapPut q
theorem Cn.drop:∀{es:List (K×AV)}{kvs:List (K×Value)},Cn h es kvs→Cn h (BP es k) (without kvs k)
 :=fun r=>by
  induction r with
  |nil=>exact .nil
  |@cons k' _ _ _ _ a b m=>
  unfold BP without at m ⊢;rw[Ls,Ls];by_cases e:k'=k
  ·simpa[e]using m
  ·simp only[ne_eq,e,not_false_eq_true,decide_true,if_true];exact .cons a m
theorem DS.look:∀{es:List (K×AV)}{xs:List (K×AB×Value)}(r:DS h es xs)(k:K),(AH es k=none→KY xs k=none)∧∀x,AH es k=some x→∃p,KY xs k=some p∧VR h x p.2
 :=fun r k=>by
  induction r with
  |nil=>exact⟨fun zz=>rfl,fun x e=>by simp[AH]at e⟩
  |@cons k' a x v _ _ r rs m=>
  have n:∀xs:List (K×AB×Value),KY ((k',a,v)::xs) k=if k'=k then some (a,v)else KY xs k:=fun xs=>by
   unfold KY;rw[Xm];by_cases e:k'=k<;>simp[e]
  rw[FT,n];by_cases e:k'=k
  ·simp only[if_pos e];exact⟨fun q=>by simp at q,fun y q=>by obtain rfl:=An q;exact⟨_,rfl,r⟩⟩
  ·simp only[if_neg e];exact m
theorem DS.length:∀{es:List (K×AV)}{xs:List (K×AB×Value)},DS h es xs→es.length=xs.length:=fun r=>by induction r with|nil=>rfl|cons _ _ m=>exact congrArg (· +1) m
theorem DS.app:∀{es m:List (K×AV)}{kvs n:List (K×AB×Value)},DS h es kvs→DS h m n→DS h (es++m) (kvs++n):=fun r q=>by induction r with|nil=>exact q|cons a _ ih=>exact .cons a ih
theorem DS.mapPut(r:VR h x v):∀{es:List (K×AV)}{xs:List (K×AB×Value)},DS h es xs→DS h (es.map fun p=>if p.1=k then(p.1,x)else p) (xs.map (putAt k v))
 :=fun q=>by
  induction q with
  |nil=>exact .nil
  |@cons k' _ _ _ _ _ a _ m=>
   rw[CB,CB];unfold putAt at m ⊢;by_cases e:k'=k
   ·simp only[if_pos e];exact .cons r m
   ·simp only[if_neg e];exact .cons a m
theorem DS.put{h:A3}{es:List (K×AV)}(r:DS h es xs){k:K}{a:AB}{x:AV}{v:Value}(q:VR h x v):DS h (Aw es k x) (storedH xs k a v):=by
 have l:=r.look k;unfold Aw storedH;cases e:AH es k with
 |none=>
  rw[l.1 e];exact r.app (.cons q .nil)
 |some y=>
  refine AI (l.2 y e) fun p m n=>?_;rw[m];exact r.mapPut q
def LF(xs:List (K×AB×Value))(k:K):List (K×AB×Value):=xs.filter fun p=>decide (p.1≠k)
theorem DS.drop:∀{es:List (K×AV)}{xs:List (K×AB×Value)},DS h es xs→DS h (BP es k) (LF xs k)
 :=fun r=>by
  induction r with
  |nil=>exact .nil
  |@cons k' _ _ _ _ _ a b m=>
  unfold BP LF at m ⊢;rw[Ls,Ls];by_cases e:k'=k
  ·simpa[e]using m
  ·simp only[ne_eq,e,not_false_eq_true,decide_true,if_true];exact .cons a m
end
theorem rR(r:VR h a.av v):(PK pg w).is a v=true:=by
 cases a with
 |int i=>refine AX r.inv_int fun t n=>?_;subst n;exact beq_self_eq_true i
 |str x=>refine AX r.inv_str fun t m=>?_;subst m;exact beq_self_eq_true x
end
section
variable {σ σ' σ'' τ τ':AA} {s s' s'':AQ} {h h':A3} {A:Ab} {env:Af} {ρ ρ':AW}
def WW(A:Ab)(t:Value→Value→Sem Unit)(x y:AV)(σ:AA)(Φ:AA→Prop):Prop:=
 ∀s u v,G σ s.heap→VR s.heap x u→VR s.heap y v→QX A (t u v) σ s Φ
def Qd(A:Ab)(x y z:AV)(σ:AA)(Φ:AA→Prop):Prop:=
 ∀s u v t,G σ s.heap→VR s.heap x u→VR s.heap y v→VR s.heap z t→QX A (setItem u v t) σ s Φ
structure DK(w:AD)(K:Type)[DecidableEq K] where
 knd:KeyKind pg w K
 tab:List (K×AV)→AO
 ka:K→AV
 at_:∀h a es,Eb w h a (tab es)↔∃kvs,h.DictOf knd a kvs∧Cn h es kvs
 key:∀h k v,VR h (ka k) v→knd.is k v=true∧(keyPart v).isSome=true∧VR h (ka k) v
def FR(w:AD):DK w Int where
 knd:=E8 pg w
 tab:=.dictI
 ka:=.int
 at_:=fun h a es=>Iff.rfl
 key:=fun h k v r=>by refine AX r.inv_int fun t m=>?_;subst m;exact⟨beq_self_eq_true k,rfl,r⟩
def co(w:AD):DK w Str where
 knd:=strKind pg w
 tab:=.dictS
 ka:=.str
 at_:=fun h a es=>Iff.rfl
 key:=fun h k v r=>by refine AX r.inv_str fun t m=>?_;subst m;exact⟨beq_self_eq_true k,rfl,r⟩
section
variable {K:Type} [DecidableEq K] (D:DK w K) {d:AB} {es:List (K×AV)} {k:K}
theorem DK.get(e:σ d=some (D.tab es))(hl:AH es k=some x)(q:Φ x σ):AM A Ih (.ref d) (D.ka k) σ Φ:=fun s u v g r1 r2=>by
 obtain rfl:=VR.inv_ref r1;refine AI ((D.at_ _ _ _).mp (g.own _ _ e).2) fun kvs hm rs=>?_;refine AI ((rs.look k).2 x hl) fun y m n=>?_;exact wpAny_getItem_of (D.key _ _ _ r2).1 hm.mapOf m ⟨x,σ,n,g,.toks _,q⟩
theorem DK.set{x:AV}{Φ:AA→Prop}(e:σ d=some (D.tab es))(hz:es.length≤100000)(q:Φ (upd σ d (D.tab (Aw es k x)))):Qd A (.ref d) (D.ka k) x σ Φ:=fun s u v t g r1 r2 r3=>by
 obtain rfl:=VR.inv_ref r1;refine AI ((D.at_ _ _ _).mp (g.own _ _ e).2) fun kvs hm n=>?_;have hl:=n.length;refine wpAny_setItem_pairs (D.key _ _ _ r2).1 hm (fun h' m hs=>?_) (by rw[CG];exact ln (AK (Ac hl.symm) hz) rfl);exact⟨_,g.set (y:=D.tab (Aw es k x)) e hs fun tk=>(D.at_ _ _ _).mpr ⟨_,m,(n.mono tk).put (r3.mono tk)⟩,.set e hs rfl rfl,q⟩
theorem Zcs(e:σ d=some (D.tab es))(hz:es.length≤100000)(hl:(AH es k).isSome=true)(q:Φ (upd σ d (D.tab (BP es k)))):WW A Nl (.ref d) (D.ka k) σ Φ:=fun s u v g r1 r2=>by
 obtain rfl:=VR.inv_ref r1;refine AI ((D.at_ _ _ _).mp (g.own _ _ e).2) fun kvs hm rs=>?_;have a0:=rs.length;have n:(Lr kvs k).isSome=true:=by
  refine AX (Ll.mp hl) fun x z=>?_;refine AI ((rs.look k).2 x z) fun y hy zz=>?_;rw[hy];rfl
 refine iM hm.typeIs ⋯ Xn ?_;refine TS Xn hm.typeIs F.entry_dict_delitem (F.args_dict_delitem_2 _ _) (PySem.meets_dict_delitem_pairs D.knd d (D.key _ _ _ r2).1) ⟨kvs,hm,(by rw[CG];exact ln (AK (Ac a0.symm) hz) rfl),n,fun h' m hs=>?_⟩;exact⟨_,g.set (y:=D.tab (BP es k)) e hs fun tk=>(D.at_ _ _ _).mpr ⟨_,m,(rs.mono tk).drop⟩,.set e hs rfl rfl,q⟩
theorem DK.pop(e:σ d=some (D.tab es))(hz:es.length≤100000)(hl:AH es k=some x)(q:Φ x (upd σ d (D.tab (BP es k)))):AF A (.builtin "dict.pop") [.ref d,D.ka k] σ Φ:=fun s vs g r=>by
 refine Sn r fun v r2=>?_;refine AI ((D.at_ _ _ _).mp (g.own _ _ e).2) fun kvs hm rs=>?_;have a0:=rs.length;refine AI ((rs.look k).2 x hl) fun y hy ry=>?_;have hk:=D.key _ _ _ r2;refine TS Xo hm.typeIs F.entry_dict_pop (F.args_dict_pop_2 _ _) (PySem.meets_dict_pop_there D.knd d hk.1 [] (.inl rfl) hk.2.1) ⟨kvs,y,hm,(by rw[CG];exact ln (AK (Ac a0.symm) hz) rfl),hy,fun h' n hs=>?_⟩;have gs:=g.set (y:=D.tab (BP es k)) e hs fun tk=>(D.at_ _ _ _).mpr ⟨_,n,(rs.mono tk).drop⟩;have st:Ar σ s (upd σ d (D.tab (BP es k))) {s with heap:=h',toks:=s.toks+1}:=.set e hs rfl rfl;refine B2 ((g.own _ _ e).2.there) fun ob eo c1 zz=>?_;have tk:Bp s.heap h':=fun b o it m e' c d'=>(hs.2 b (by rintro rfl;obtain rfl:=An ((eo.symm.trans e'));exact c1 c _ _ d')).trans e';exact⟨x,_,ry.mono tk,gs,st,q⟩
theorem Zcn(e:σ d=some (D.tab es))(n1:d≠1)(hz:es.length≤100000)(q1:∀y,AH es k=some y→Φ y σ)(q2:AH es k=none→Φ x (upd σ d (D.tab (Aw es k x)))):
  AF A (.builtin "dict.setdefault") [.ref d,D.ka k,x] σ Φ:=fun s vs g r=>by
 refine Wx r fun v r2 v3 r3=>?_;refine AI ((D.at_ _ _ _).mp (g.own _ _ e).2) fun kvs hm rs=>?_;have a1:=rs.length;have hk:=D.key _ _ _ r2;refine TS TY hm.typeIs Zdf (Zdg _ _ _) (PySem.kt_meets_setdefault D.knd d hk.1 (beq_eq_false_iff_ne.mpr n1) _) ⟨kvs,hm,(by rw[CG];exact ln (AK (Ac a1.symm) hz) rfl),fun v hv=>?_,fun hv h' a0 hs=>?_⟩
 ·cases z:AH es k with
  |none=>exact Au ((((rs.look k).1 z).symm.trans hv))
  |some y=>
   refine AI ((rs.look k).2 y z) fun v' n ry=>?_;obtain rfl:=An ((n.symm.trans hv));exact⟨y,σ,ry,g,.toks _,q1 y z⟩
 ·have z:AH es k=none:=by
   cases z:AH es k with
   |none=>rfl
   |some y=>refine AI ((rs.look k).2 y z) fun v' n zz=>?_;exact Bf ((n.symm.trans hv))
  refine B2 ((g.own _ _ e).2.there) fun ob eo c1 zz=>?_;have tk:Bp s.heap h':=fun b o it m e' c d'=>(hs.2 b (by rintro rfl;obtain rfl:=An ((eo.symm.trans e'));exact c1 c _ _ d')).trans e';exact⟨x,_,r3.mono tk,g.set (y:=D.tab (Aw es k x)) e hs fun tk=>(D.at_ _ _ _).mpr ⟨_,a0,(rs.mono tk).put (r3.mono tk)⟩,.set e hs rfl rfl,q2 z⟩
end
end
section
variable {σ σ' σ'' τ τ':AA} {s s' s'':AQ} {h h':A3} {A:Ab} {env:Af} {ρ ρ':AW}
abbrev TK(w:AD):HeapKind pg w (List B5):=tupleKind (PK pg w)
abbrev Bw(ks:List B5):AV:=.tup (ks.map B5.av)
theorem t7{ks:List B5}{vs:List Value}(r:VRs h (ks.map B5.av) vs):ItemsAre (PK pg w) ks vs:=VRs.ind (P:=fun xs vs=>∀ks:List B5,xs=ks.map B5.av→ItemsAre (PK pg w) ks vs) (fun ks e=>by cases ks with|nil=>exact .nil|cons k ks=>cases e) (fun{x v xs vs} a b m ks e=>by
 cases ks with
 |nil=>cases e
 |cons k ks=>have e:=iN e;exact .cons (rR (e.1▸a)) (m _ e.2)) r ks rfl
theorem KE(r:VR h (Bw ks) v):∃a,v=.ref a∧(TK w).is h ks a:=Ja r fun a items n e m=>⟨a,rfl,_,items,n,e,rfl,rfl,t7 m⟩
section
variable {xs:List (List B5×AB×Value)} {d a:AB} {k:List B5} {E:Value→AQ→Prop}
theorem oB:∀{j:Nat},(xs.map (·.1)).Nodup→xs[j]? =some (k,p)→xs.eraseIdx j=LF xs k:=by
 induction xs with
 |nil=>intro _ _ e;exact Au e
 |cons y r n=>
  intro j m e;rw[CB,FM]at m;unfold LF;cases j with
  |zero=>
   obtain rfl:=An e;rw[Ls,if_neg (by simp)];exact(Zdh.mpr fun z hz=>by
    have:z.1≠k:=fun q=>m.1 (by rw[←q];exact BD.mpr ⟨z,hz,rfl⟩);simpa using this).symm
  |succ j=>
   have e:r[j]? =some (k,p):=e;have:y.1≠k:=fun(q:y.1=k)=>m.1 (q▸BD.mpr ⟨_,C6 e,rfl⟩);rw[iO,n m.2 e,Ls,if_pos (by simpa using this)];rfl
theorem cO{α β:Type}(f:α→β):∀(l:List α)(j:Nat),(l.map f).eraseIdx j=(l.eraseIdx j).map f
 |[],_=>rfl
 |_::_,0=>rfl
 |x::l,j+1=>by rw[CB,iO,iO,CB,cO f l j]
theorem bQ(hu:(TK w).room A)(m:(TK w).is s.heap k a)(hm:s.heap.DictOfH (TK w) d xs)(hp:KY xs k=some p)
  (hQ:∀e h',e.val=p.2→h'.DictOfH (TK w) d (LF xs k)→E9 d s.heap h'→Q (some e) {s with heap:=h',toks:=s.toks+(TK w).draws k})(a1:xs.length≤Nj):
  AR (Ae pg w) A (iP d (.ref a)) Q E s:=by
 refine PE hm fun o es ep ho hc hd he n hn=>?_;unfold iP
 try with_reducible refine CF ?_
 refine AE ((TK w).pyHash hu m (AE (wpAny_dictFind_heap (s:={s with toks:=s.toks+(TK w).draws k}) hu m ho hd he n hn ?_ ?_)))
 ·intro a2;exact Au (((TZ a2).symm.trans hp))
 ·intro j q hj;obtain rfl:=An (((atKey_of_get hn hj).symm.trans hp));refine AE (iQ (s:={s with toks:=s.toks+(TK w).draws k}) ho hd ?_);rw[entry_at he j,hj];have hs:E9 d s.heap (s.heap.update d (Obj.mapDictKeys fun x=>x.eraseIdxIfInBounds j)):=Ei ..;have a0:es.size=xs.length:=iR he;refine AE (wpAny_updateDictKeys (s:={s with toks:=s.toks+(TK w).draws k}) ho hd (Ad (hQ _ _ rfl ⟨_,_,ep+1,GS _ ho (Xg (Xp hd _)),hc.mapDictKeys _,Xp hd _,?_,fun x hx=>?_,?_⟩ hs)) (!AK (Ac a0) a1) (by simp[Array.eraseIdxIfInBounds];split<;>simp<;>exact A5 fS))
  ·rw[←oB hn hj];have a3:j<es.size:=by rw[a0];exact(BX.mp hj).1
   rw[show(es.eraseIdxIfInBounds j).toList=es.toList.eraseIdx j by obtain⟨l⟩:=es;simp,he,cO]
  ·exact(TK w).keeps (n x (Dd.mp hx).1) ho hd hs
  ·have:(LF xs k).map (·.1)=(xs.map (·.1)).filter fun y=>decide (y≠k):=by
    unfold LF;rw[Jl];rfl
   rw[this];exact hn.filter _
end
section
variable {d:AB} {es:List (List B5×AV)} {k:List B5}
theorem gG(hu:A.in1.units<Hu)(e:σ d=some (.dictT es))(n1:d≠1)(q:Φ (.bool (AH es k).isSome) σ):AM A (Dx .In) (Bw k) (.ref d) σ Φ:=fun s u v g r1 r2=>by
 obtain rfl:=VR.inv_ref r2;refine AI ((g.own _ _ e).2) fun xs hm rs=>?_;refine AI (KE r1) fun a m hk=>?_;subst m;have n:(KY xs k).isSome=(AH es k).isSome:=by
  cases z:AH es k with
  |none=>rw[(rs.look k).1 z];rfl
  |some x=>refine AI ((rs.look k).2 x z) fun y hy zz=>?_;rw[hy];rfl
 exact wpAny_in_heap (knd:=TK w) hu hk (beq_eq_false_iff_ne.mpr n1) hm ⟨.bool _,σ,by rw[n];exact .bool _,g,.toks _,q⟩
theorem Zby(hu:A.in1.units<Hu)(e:σ d=some (.dictT es))(n1:d≠1)(q:Φ (.bool (not ((AH es k).isSome))) σ):AM A (Dx .NotIn) (Bw k) (.ref d) σ Φ:=fun s u v g r1 r2=>by
 obtain rfl:=VR.inv_ref r2;refine AI ((g.own _ _ e).2) fun xs hm rs=>?_;refine AI (KE r1) fun a n hk=>?_;subst n;have m:(KY xs k).isSome=(AH es k).isSome:=by
  cases z:AH es k with
  |none=>rw[(rs.look k).1 z];rfl
  |some x=>refine AI ((rs.look k).2 x z) fun y hy zz=>?_;rw[hy];rfl
 show AR _ _ (do return Value.bool (not ((←contains (.ref d) (.ref a))))) _ _ s
 refine AE ?_;unfold contains
 try with_reducible refine CF ?_
 refine AE (Ta hm.typeIs iS.lookup ?_);show AR _ _ (if(some (Value.builtin "dict.__contains__")==some Lu)=true then _ else _) _ _ s;rw[if_neg (by rw[beq_builtin_none];exact Gq)];refine AE (wpAny_callSpecialUnlessNone?_slot (name:=QG "__contains__") hm.typeIs iS
  (HM iS hm.typeIs entry_dict_contains ?_ (args_dict_contains _ _)))
 show AR _ _ (dictGet d (.ref a)>>=_) _ _ s;refine AE (wpAny_dictGet_heap (knd:=TK w) hu hk hm ?_);cases hf:KY xs k with
 |some p=>
  show AR _ _ (ret (.bool true)) _ _ _;refine Ad ⟨_,rfl,Pv (Ad ⟨.bool _,σ,?_,g,.toks _,q⟩)⟩;rw[←m,hf];exact .bool _
 |none=>
  show AR _ _ (Builtin.Dict.pendingKey? d (.ref a)>>=_) _ _ _;refine AE (wpAny_pendingKey_other (beq_eq_false_iff_ne.mpr n1) (Ad ⟨_,rfl,Pv (Ad ⟨.bool _,σ,?_,g,.toks _,q⟩)⟩));rw[←m,hf];exact .bool _
theorem DT.get(hu:A.in1.units<Hu)(e:σ d=some (.dictT es))(hl:AH es k=some x)(q:Φ x σ):AM A Ih (.ref d) (Bw k) σ Φ:=fun s u v g r1 n=>by
 obtain rfl:=VR.inv_ref r1;refine AI ((g.own _ _ e).2) fun xs hm rs=>?_;refine AI (KE n) fun a m hk=>?_;subst m;refine AI ((rs.look k).2 x hl) fun y hy ry=>?_;exact wpAny_getItem_heap (knd:=TK w) hu hk hm hy ⟨x,σ,ry,g,.toks _,q⟩
theorem Zcv(hu:A.in1.units<Hu)(e:σ d=some (.dictT es))(n1:d≠1)(q:Φ ((AH es k).getD x) σ):AF A (.builtin "dict.get") [.ref d,Bw k,x] σ Φ:=fun s vs g r=>by
 refine Wx r fun v r2 v3 r3=>?_;refine AI ((g.own _ _ e).2) fun xs hm n=>?_;refine AI (KE r2) fun a m hk=>?_;subst m;refine TS F.slot_dict_get hm.typeIs F.entry_dict_get (F.args_dict_get_3 _ _ _) (meetsH_dict_get_default (TK w) d a (beq_eq_false_iff_ne.mpr n1) _) ⟨hu,k,xs,hk,hm,?_⟩;refine⟨_,σ,?_,g,.toks _,q⟩;cases z:AH es k with
 |none=>rw[(n.look k).1 z];exact r3
 |some y=>refine AI ((n.look k).2 y z) fun p hp ry=>?_;rw[hp];exact ry
theorem DT.set{x:AV}{Φ:AA→Prop}(hu:A.in1.units<Hu)(e:σ d=some (.dictT es))(hz:es.length≤100000)(q:Φ (upd σ d (.dictT (Aw es k x)))):Qd A (.ref d) (Bw k) x σ Φ:=fun s u v t g r1 r2 r3=>by
 obtain rfl:=VR.inv_ref r1;refine AI ((g.own _ _ e).2) fun xs hm rs=>?_;refine AI (KE r2) fun a m hk=>?_;subst m;have a0:=rs.length;refine wpAny_setItem_heap (knd:=TK w) hu hk hm (fun h' n hs=>?_) (by rw[CG];exact ln (AK (Ac a0.symm) hz) rfl);exact⟨_,g.set (y:=.dictT (Aw es k x)) e hs fun tk=>⟨_,n,(rs.mono tk).put (r3.mono tk)⟩,.set e hs rfl rfl,q⟩
theorem Zcf(hu:A.in1.units<Hu)(e:σ d=some (.dictT es))(hz:es.length≤100000)(hl:(AH es k).isSome=true)(q:Φ (upd σ d (.dictT (BP es k)))):WW A Nl (.ref d) (Bw k) σ Φ:=fun s u v g r1 r2=>by
 obtain rfl:=VR.inv_ref r1;refine AI ((g.own _ _ e).2) fun xs hm rs=>?_;refine AI (KE r2) fun a m hk=>?_;subst m;have a0:=rs.length;refine AX (Ll.mp hl) fun x z=>?_;refine AI ((rs.look k).2 x z) fun p hp zz=>?_;refine iM hm.typeIs ⋯ Xn (HM Xn hm.typeIs F.entry_dict_delitem ?_ (F.args_dict_delitem_2 _ _));unfold Builtin.«dict.__delitem__»;refine AE ?_;unfold Builtin.Dict.dictSlotArgs;refine AE (iT hm.typeIs ?_);show AR _ _ (pure (Fi d,Fi a)) _ _ s;refine Ad ?_;show AR _ _ (iP d (.ref a)>>=_) _ _ s;refine AE (bQ hu hk hm hp (fun en h' zz n hs=>?_) (by rw[CG];exact ln (AK (Ac a0.symm) hz) rfl));exact AE (wpAny_letGo (Ad ⟨.none,rfl,_,g.set (y:=.dictT (BP es k)) e hs fun tk=>⟨_,n,(rs.mono tk).drop⟩,.set e hs rfl rfl,q⟩))
theorem DT.pop(hu:A.in1.units<Hu)(e:σ d=some (.dictT es))(hz:es.length≤100000)(hl:AH es k=some x)(q:Φ x (upd σ d (.dictT (BP es k)))):AF A (.builtin "dict.pop") [.ref d,Bw k] σ Φ:=fun s vs g r=>by
 refine Sn r fun v r2=>?_;refine AI ((g.own _ _ e).2) fun xs hm rs=>?_;refine AI (KE r2) fun a a0 hk=>?_;subst a0;have a4:=rs.length;refine AI ((rs.look k).2 x hl) fun p hp ry=>?_;refine HM Xo hm.typeIs F.entry_dict_pop ?_ (F.args_dict_pop_2 _ _);unfold Builtin.«dict.pop»;refine AE ?_;unfold Zdi;refine AE (iT hm.typeIs ?_);show AR _ _ (pure (d,Fi a,none)) _ _ s;refine Ad ?_;refine PE (id hm) fun o n ep ho hc hd he a6 hn=>?_;dsimp only;rw[if_neg (show ¬(keyPart (Fi a)).isSome=true by simp[keyPart])];refine AE (iQ ho hd (AE (Ad ?_)));have a5:n.isEmpty=false:=by
  have a3:n.size=xs.length:=iR he;cases q:n.isEmpty with
  |false=>rfl
  |true=>
   have:n.size=0:=by simpa using q
   have:xs=[]:=Lh (!Ej (AK (Ac a3.symm) (Ac this)) (Bc _));rw[this]at hp;cases hp
 rw[a5,if_neg Gq];refine AE (bQ hu hk hm hp (fun en h' a2 a1 hs=>?_) (by rw[CG];exact ln (AK (Ac a4.symm) hz) rfl));have tk:Bp s.heap h':=fun b ob it m e' c d'=>(hs.2 b (by rintro rfl;obtain rfl:=An ((ho.symm.trans e'));rw[hc.1]at c;simp at c)).trans e';simp only[Option.isNone_some,HN,if_false];exact AE (wpAny_letGo (Ad ⟨en.val,rfl,x,_,by rw[a2];exact ry.mono tk,g.set (y:=.dictT (BP es k)) e hs fun tk=>⟨_,a1,(rs.mono tk).drop⟩,.set e hs rfl rfl,q⟩))
set_option tactic.hygienic true in
theorem gJ(hu:A.in1.units<Hu)(e:σ d=some (.dictT es))(n1:d≠1)(hz:es.length≤100000)(q1:∀y,AH es k=some y→Φ y σ)(q2:AH es k=none→Φ x (upd σ d (.dictT (Aw es k x)))):
  AF A (.builtin "dict.setdefault") [.ref d,Bw k,x] σ Φ:=fun s vs g r=>by
 refine Wx r fun v r2 vx r3=>?_;refine AI ((g.own _ _ e).2) fun xs hm rs=>?_;refine AI (KE r2) fun a a0 hk=>?_;subst a0;have a6:=rs.length;refine HM TY hm.typeIs Zdf ?_ (Zdg _ _ _);unfold Builtin.«dict.setdefault»;refine AE ?_;unfold Zdi;refine AE (iT hm.typeIs ?_);show AR _ _ (pure (d,Fi a,some vx)) _ _ s;refine Ad ?_;show AR _ _ (if(d==sysModules)=true then _ else(dictSetDefault d (.ref a) vx>>=_)) _ _ s;rw[if_neg (by rw[show(d==sysModules)=false from beq_eq_false_iff_ne.mpr n1];exact Gq)];refine AE ?_;refine PE (id hm) fun o a3 ep ho hc hd he a1 hn=>?_;have a5:a3.size=xs.length:=iR he;unfold dictSetDefault
 try with_reducible refine CF ?_
 refine AE ((TK w).pyHash hu hk (AE (wpAny_dictFind_heap (knd:=TK w) (s:={s with toks:=s.toks+(TK w).draws k}) hu hk ho hd he a1 hn ?_ ?_)))
 ·intro n;have z:AH es k=none:=by
   cases z:AH es k with
   |none=>rfl
   |some y=>refine AI ((rs.look k).2 y z) fun p hp _=>?_;exact Au (((TZ n).symm.trans hp))
  have hs:E9 d s.heap (s.heap.update d (Obj.mapDictKeys fun x=>x.push ⟨(TK w).hash k,.ref a,vx⟩)):=Ei ..;have tk:Bp s.heap _:=fun b ob it m e' c d'=>(hs.2 b (by rintro rfl;obtain rfl:=An ((ho.symm.trans e'));rw[hc.1]at c;simp at c)).trans e';have a2:k∉xs.map (·.1):=not_mem_keys_of_get n;refine AE (Lv (AE (wpAny_updateDictKeys (s:={s with toks:=s.toks+(TK w).draws k}) ho hd (Ad (Ad ⟨vx,rfl,x,upd σ d (.dictT (Aw es k x)),r3.mono tk,g.set (y:=.dictT (Aw es k x)) e hs (fun tk=>⟨storedH xs k a vx,⟨_,_,ep+1,GS _ ho (Xg (Xp hd _)),hc.mapDictKeys _,Xp hd _,?_,fun y hy=>?_,?_⟩,(rs.mono tk).put (r3.mono tk)⟩),.set e hs rfl rfl,q2 z⟩)) (by rw[CG];exact ln (AK (AK (Ac a5) (Ac a6.symm)) hz) rfl))))
  ·rw[storedH_new (TZ n)];simp[he,entryOfKey]
  ·rw[storedH_new (TZ n)]at hy;rcases B9.mp hy with hy|hy
   ·exact(TK w).keeps (a1 y hy) ho hd hs
   ·rw[Aq.mp hy];exact(TK w).keeps hk ho hd hs
  ·rw[storedH_new (TZ n),Cr,Nm];refine⟨hn,by simp,?_⟩;intro y hy z hz;simp only[CB,List.map_nil,Aq]at hz;subst hz;exact fun e=>a2 (e▸hy)
 ·intro j p hj;refine AE (iQ (s:={s with toks:=s.toks+(TK w).draws k}) ho hd ?_);rw[entry_at he j,hj];have hp:=atKey_of_get hn hj;cases z:AH es k with
  |none=>exact Au ((((rs.look k).1 z).symm.trans hp))
  |some y=>
   refine AI ((rs.look k).2 y z) fun p' a4 ry=>?_;obtain rfl:=An ((hp.symm.trans a4));exact AE (Lv (Ad (Ad ⟨_,rfl,y,σ,ry,g,.toks _,q1 y z⟩)))
end
end
section
variable {σ σ' σ'' τ τ':AA} {s s' s'':AQ} {h h':A3} {A:Ab} {env:Af} {ρ ρ':AW}
theorem Eh{l:AB}{xs:List AV}{i:Int}{x:AV}{Φ:AV→AA→Prop}(e:σ l=some (.list xs))(h0:0≤i)(hx:xs[i.toNat]? =some x)(hi:i<1000000)(q:Φ x σ):AM A Ih (.ref l) (.int i) σ Φ:=fun s u v g r1 r2=>by
 obtain rfl:=VR.inv_ref r1;refine AX (VR.inv_int r2) fun zz m=>?_;subst m;refine Ci ((g.own _ _ e).2) fun items n o qs=>?_;refine AI (qs.get' hx) fun y hy ry=>?_;exact wpAny_getItem_list ⟨_,o,rfl,n,rfl⟩ h0 (dM hi) (by rw[←Dp];exact hy) ⟨x,σ,ry,g,.refl _ _,q⟩
theorem Zca{l:AB}{xs:List AV}{i:Int}{x:AV}{Φ:AV→AA→Prop}(e:σ l=some (.list xs))(h0:i<0)(h1:-(xs.length:Int)≤i)(hx:xs[(i+xs.length).toNat]? =some x)(hi:xs.length<1000000)(q:Φ x σ):AM A Ih (.ref l) (.int i) σ Φ:=fun s u v g r1 r2=>by
 obtain rfl:=VR.inv_ref r1;refine AX (VR.inv_int r2) fun zz m=>?_;subst m;refine Ci ((g.own _ _ e).2) fun items n o qs=>?_;refine AI (qs.get' hx) fun y hy ry=>?_;have l1:=qs.toArr;exact wpAny_getItem_list_neg ⟨_,o,rfl,n,rfl⟩ h0 (by rw[l1];exact h1) (XV (Int.neg_le_neg (gu (Q4 (QC hi)))) h1) (by rw[←Dp,l1];exact hy) ⟨x,σ,ry,g,.refl _ _,q⟩
theorem dp{i:Int}{n:Nat}(m:0≤i)(h:i<n):seqIndex? i n=some i.toNat:=by
 unfold seqIndex?;rw[if_neg (iA.mpr m)];exact if_pos (by rw[decide_eq_true m,decide_eq_true h];rfl)
theorem Fc{xs:List AV}{i:Int}{x:AV}{Φ:AV→AA→Prop}(h0:0≤i)(hx:xs[i.toNat]? =some x)(hi:i<1000000)(q:Φ x σ):AM A Ih (.tup xs) (.int i) σ Φ:=fun s u v g r1 r2=>by
 refine AX (VR.inv_int r2) fun zz a0=>?_;subst a0;refine Ja r1 fun a items n e qs=>?_;refine AI (qs.get' hx) fun y hy ry=>?_;have m:items[i.toNat]? =some y:=by rw[←Dp];exact hy
 have a1:i.toNat<items.size:=(Nn.mp m).1;exact P.getItem_tuple e (qd h0) (dM hi) (dp h0 ((Int.toNat_lt h0).mp a1)) m ⟨x,σ,ry,g,.refl _ _,q⟩
theorem Zbp{a:Str}{i:Nat}{c:Nat}{Φ:AV→AA→Prop}(hc:a.cps[i]? =some c)(hi:i<1000000)(q:Φ (.str ⟨#[c]⟩) σ):AM A Ih (.str a) (.int i) σ Φ:=fun s u v g r1 r2=>by
 refine AX (VR.inv_str r1) fun zz n=>?_;subst n;refine AX (VR.inv_int r2) fun zz m=>?_;subst m;have a0:i<a.cps.size:=(Nn.mp hc).1;refine P.getItem_str (c:=c) (by simp;exact A5 yX hi) ?_ ⟨.str ⟨#[c]⟩,σ,.str _ _,g,.toks _,q⟩;have:seqIndex? (i:Int) a.length=some i:=dp (Xq i) (Int.ofNat_lt.mpr a0);rw[this];exact hc
inductive Hm(σ:AA):AV→String→String→Prop
 |list {l:AB} {xs:List AV}:σ l=some (.list xs)→Hm σ (.ref l) "list" "list.__getitem__"
 |dictI {l:AB} {es}:σ l=some (.dictI es)→Hm σ (.ref l) "dict" "dict.__getitem__"
 |dictS {l:AB} {es}:σ l=some (.dictS es)→Hm σ (.ref l) "dict" "dict.__getitem__"
 |dictT {l:AB} {es}:σ l=some (.dictT es)→Hm σ (.ref l) "dict" "dict.__getitem__"
 |tup {xs:List AV}:Hm σ (.tup xs) "tuple" "tuple.__getitem__"
 |str {x:Str}:Hm σ (.str x) "str" "str.__getitem__"
theorem Hm.ty{T id:String}(q:Hm σ x T id)(g:G σ s.heap)(r:VR s.heap x v):s.TypeIs v T∧No (.type T) "__getitem__"=pure (some (.builtin id)):=by
 cases q with
 |list e=>obtain rfl:=VR.inv_ref r;refine Ci ((g.own _ _ e).2) fun items n o zz=>?_;exact⟨⟨_,o,rfl⟩,slot_list_getitem.lookup⟩
 |dictI e=>obtain rfl:=VR.inv_ref r;refine AI ((g.own _ _ e).2) fun kvs hm zz=>?_;exact⟨hm.typeIs,iV.lookup⟩
 |dictS e=>obtain rfl:=VR.inv_ref r;refine AI ((g.own _ _ e).2) fun kvs hm zz=>?_;exact⟨hm.typeIs,iV.lookup⟩
 |dictT e=>obtain rfl:=VR.inv_ref r;refine AI ((g.own _ _ e).2) fun kvs hm zz=>?_;exact⟨hm.typeIs,iV.lookup⟩
 |tup=>cases r with|tup e _=>exact⟨⟨_,e,rfl⟩,slot_tuple_getitem.lookup⟩
 |str=>refine AX (VR.inv_str r) fun zz m=>?_;subst m;exact⟨typeIs_str _ _ _,F.slot_str_getitem.lookup⟩
theorem r8(m:Expr)(o i:Value):∃n,subscripted m false o i=operate n (Ih o i):=by
 cases m with
 |Slice a b st p=>cases st<;>exact⟨_,rfl⟩
 |_=>exact⟨_,rfl⟩
theorem Wu{T id:String}(hT:s.TypeIs o T)(hl:No (.type T) "__getitem__"=pure (some (.builtin id)))
  (h:AR (Ae pg w) A (Ih o i) Q (fun n n=>False) s):AR (Ae pg w) A (subscriptTail a1 m o i) Q (fun n n=>False) s:=by
 unfold subscriptTail;refine AE ?_;rw[getitemInPython_of_ne hT.not_modules];refine AE (Ta hT hl ?_);refine AX (r8 m o i) fun a3 hs=>?_;have fin:AR (Ae pg w) A (subscripted m false o i) (fun r a0=>AR (Ae pg w) A (Ln a1 o r>>=fun n=>pure r) Q (fun n n=>False) a0) (fun n n=>False) s:=by
  rw[hs];exact wpAny_operating (AT h (fun r a0 a2=>AE (wpAny_letTemporaryGo (Ad a2))) fun n n x=>x)
 first
  |exact Ad (AE fin)
  |exact AE (Ad (AE fin))
  |exact AE fin
abbrev itK(A:Ab)(m:AV)(Φ:AV→AA→Prop):AV→AA→Prop:=fun n σ₂=>(∃T id,Hm σ₂ m T id)∧AM A Ih m n σ₂ Φ
abbrev sp(A:Ab)(env:Af)(m:Expr)(ρ:AW)(Φ:AV→AA→Prop):AV→AA→Prop:=fun n σ=>EV A env m ρ σ (itK A n Φ)
theorem CR(k:EV A env a3 ρ σ (sp A env a4 ρ Φ)):
  EV A env (.Subscript a3 a4 c3) ρ σ Φ:=fun s S=>
 Subscript_ (AT (k s S) (fun o s₁ b6=>BG b6 fun ov b7 b0 n a1 a9=>AT (a9 s₁ (S.step n a1)) (fun i s₂ c1=>BG c1 fun iv σ₂ b4 a2 a0 b2=>AL b2 fun a8 b5=>Bx a8 fun T id q=>by
  have m:=b0.mono (a0.evo.tup n);refine AL (q.ty a2 m) fun hT hl=>?_;exact Wu hT hl (AT (b5 s₂ o i a2 m b4) (fun v c2 b3=>BG b3 fun av a5 a7 b1 a6 q=>⟨av,a5,a7,b1,a1.trans (a0.trans a6),q⟩) fun zz zz e=>e)) fun zz zz e=>e) fun zz zz e=>e)
def OV(A:Ab)(env:Af)(e:Option Expr)(ρ:AW)(σ:AA)(Φ:Option Int→AA→Prop):Prop:=
 match e with
 |none=>Φ none σ
 |some e=>EV A env e ρ σ fun v m=>∃i,v=.int i∧Φ (some i) m
theorem OV.run(k:OV A env e ρ σ Φ)(S:St env ρ σ s.heap):AR (Ae pg w) A (evalPart e env) (fun v s'=>∃i σ',IsPart v i∧G σ' s'.heap∧Ar σ s σ' s'∧Φ i σ') (fun zz zz=>False) s:=by
 cases e with
 |none=>rw[Xr];exact Ad ⟨none,σ,.none,S.g,.refl _ _,k⟩
 |some e=>rw[evalPart_some];exact AT (k s S) (fun v s' n=>BG n fun av σ' r g t m=>AI m fun i e1 q=>by subst e1;refine AX r.inv_int fun tk a0=>?_;subst a0;exact⟨some i,σ',.int _ _,g,t,q⟩) fun zz zz e=>e
def JF(A:Ab)(ov:AV)(lo hi:Option Int)(σ:AA)(Φ:AV→AA→Prop):Prop:=
 ∀s u m n vu,G σ s.heap→VR s.heap ov u→s.heap.IsSliceOf m n vu .none→IsPart n lo→IsPart vu hi→ER A (Ih u (.ref m)) σ s Φ
theorem So
  (k:EV A env a9 ρ σ fun ov a0=>OV A env b1 ρ a0 fun lo σ₂=>OV A env b2 ρ σ₂ fun hi m=>(∃T id,Hm m ov T id)∧JF A ov lo hi m Φ):
  EV A env (.Subscript a9 (.Slice b1 b2 none p) c9) ρ σ Φ:=fun s S=>
 Subscript_ (AT (k s S) (fun o s₁ b6=>BG b6 fun ov a0 c1 a5 a4 b7=>wpAny_Slice (AT (b7.run (S.step a5 a4)) (fun vl s₂ b5=>Bx b5 fun lo σ₂ c5=>Bs c5 fun pl a8 a2 c4=>AT (c4.run (S.step a8 (a4.trans a2))) (fun vu a3 ⟨hi,m,pu,a7,a6,⟨T,id,q⟩,b3⟩=>by
  rw[Xr];refine Ad ?_;have a1:=((c1.mono (a2.evo.tup a5)).mono (a6.evo.tup a8)).mono (h':=a3.heap.push {cls:=.type "slice",data:=.fields #[vl,vu,.none]}) fun n n n n e n n=>BC _ e;refine AL (q.ty (s:={a3 with heap:=a3.heap.push {cls:=.type "slice",data:=.fields #[vl,vu,.none]}}) (a7.push _) a1) fun hT hl=>?_;exact Wu hT hl (AT (b3 _ o _ vl vu (a7.push _) a1 ⟨_,Bz _ rfl,rfl,rfl⟩ pl pu) (fun v c8 c6=>BG c6 fun av b0 c2 c3 b4 q=>⟨av,b0,c2,c3,a4.trans (a2.trans (a6.trans ((Ar.push _).trans b4))),q⟩) fun n n e=>e)) fun n n e=>e) fun n n e=>e)) fun n n e=>e)
theorem JF.list{l:AB}{xs ys:List AV}{lo hi:Option Int}{Φ:AV→AA→Prop}(e:σ l=some (.list xs))(hz:xs.length≤1000000)
  (hy:(∃b:Nat,lo=none∧hi=some (b:Int)∧ys=xs.take b)∨(∃a:Nat,lo=some (a:Int)∧hi=none∧ys=xs.drop a))
  (q:∀D,σ D=none→hb.get? D=none→Φ (.ref D) (upd σ D (.list ys))):JF A (.ref l) lo hi σ Φ:=fun s u sl vl vu g r a0 pl pu=>by
 obtain rfl:=VR.inv_ref r;refine Ci ((g.own _ _ e).2) fun items n o qs=>?_;have l1:=qs.toArr;refine Zdj ⟨_,o,rfl,n,rfl⟩ a0 pl pu .none (!(by intro e;injection e)) ⟨.ref _,upd σ s.heap.objs.size (.list ys),.ref _,g.pushOwn _ ⟨_,_,Bz _ rfl,?_⟩,.pushOwn _ _,q _ g.fresh.1 g.fresh.2⟩ (by rw[CG];exact ln (AK (Ac l1) hz) rfl);rcases hy with⟨b,rfl,rfl,rfl⟩|⟨a,rfl,rfl,rfl⟩
 ·rw[slicePick_upto'];exact(qs.mono fun m m m m e m m=>BC _ e).take
 ·rw[slicePick_from'];exact(qs.mono fun m m m m e m m=>BC _ e).drop
theorem JF.tup{xs:List AV}{a:Nat}(h1:1≤a)(ha:a≤xs.length)(hz:xs.length≤1000000)(q:Φ (.tup (xs.drop a)) σ):JF A (.tup xs) (some (a:Int)) none σ Φ:=fun s u sl vl vu g r a0 pl pu=>by
 cases pu;cases pl with
 |int _ tk=>
  cases r with
  |@tup t _ items n e qs=>
   have l1:=qs.toArr;exact getItem_tuple_from (ht:=⟨_,e,rfl,n,rfl⟩) a0 h1 (!AK ha (Ac l1.symm)) ⟨.tup (xs.drop a),σ,.tup (Bz _ rfl) ((qs.drop (n:=a)).mono fun m m m m e m m=>BC _ e),g.push _,.push _,q⟩ (by rw[CG];exact ln (AK (Ac l1) hz) rfl)
theorem yo{k:Int}(o:s.heap.get? l=some {cls:=.type "list",data:=.seq items n})
  (h0:0≤k)(m:k<2 ^ 63)(hn:k<items.size)(hQ:Q Unit.unit {s with heap:=s.heap.update l (DV (·.setIfInBounds k.toNat v))}):
  AR (Ae pg w) A (setItem (.ref l) (.int k t) v) Q E s:=by
 have hl:s.heap.IsList l items:=⟨_,o,rfl,n,rfl⟩;unfold setItem
 try with_reducible refine CF ?_
 first|refine AE (Ad ?_)|skip
 refine AE (wpAny_sequenceKey hl.typeIs ⋯ ?_);refine AE (iW (name:=QG "__setitem__") hl.typeIs slot_list_setitem
  (HM slot_list_setitem hl.typeIs entry_list_setitem ?_ (args_list_setitem _ _ _)))
 show AR _ _ (iX (.int k t)>>=_) _ _ s;refine AE (wpAny_listSubscript_int (fitsIndex_of h0 m) ?_);clear m;obtain⟨j,rfl⟩:=Int.eq_ofNat_of_zero_le h0;have hj:j<items.size:=by exact Am xw hn
 have a0:items[j]? =some items[j]:=KZ hj;show AR _ _ ((seqItemAt l j>>=fun r=>pure (r.map (j,·)))>>=_) _ _ s;refine AE (AE (wpAny_seqItemAt o rfl (Ad ?_)));rw[a0];show AR _ _ (setSeqItemAt l j v>>=_) _ _ s;refine AE (wpAny_setSeqItemAt o rfl ?_)
 first
  |exact AE (Ad (Ad ⟨.none,rfl,Ad hQ⟩))
  |exact Ad ⟨.none,rfl,Ad hQ⟩
theorem setL(e:σ l=some (.list xs))(hi:i<xs.length)(hz:xs.length≤1000000)(q:Φ (upd σ l (.list (xs.set i x)))):Qd A (.ref l) (.int i) x σ Φ:=fun s u v t g r1 r2 r3=>by
 obtain rfl:=VR.inv_ref r1;refine AX (VR.inv_int r2) fun zz m=>?_;subst m;refine Ci ((g.own _ _ e).2) fun items n o qs=>?_;have l1:=qs.toArr;refine yo o (!A5 o0) (Q4 (AK (QC hi) hz)) (!BS uh hi l1) ?_;have hs:E9 l s.heap (s.heap.update l (DV (·.setIfInBounds i t))):=Ei ..;exact⟨_,g.set (y:=.list (xs.set i x)) e hs fun tk=>⟨items.setIfInBounds i t,_,GS _ o rfl,by rw[Array.toList_setIfInBounds];exact(qs.mono tk).set (r3.mono tk)⟩,.set e hs rfl rfl,q⟩
theorem KR{o i:Expr}{b4:A8}{x:AV}{Φ:AW→AA→Prop}(k:EV A env o ρ σ fun ov a0=>EV A env i ρ a0 fun iv σ₂=>Qd A ov iv x σ₂ (fun m=>Φ ρ m)):
  AP A env (Fh (.Subscript o i b4) env) x ρ σ Φ:=fun s v S r=>by
 rw[assign_Subscript];refine AE (CF (AT (k s S) (fun ov s₁ a7=>BG a7 fun oa a0 b0 a1 a2 a9=>?_) fun zz zz e=>e));have a4:=S.step a1 a2;refine AE (CF (AT (a9 s₁ a4) (fun iv s₂ a8=>BG a8 fun ia σ₂ b2 a5 n b3=>?_) fun zz zz e=>e));have a6:=a4.step a5 n;refine AE (EJ (AE (CF (AT (b3 s₂ ov iv v a5 (b0.mono (n.evo.tup a1)) b2 ((r.mono (a2.evo.tup S.g)).mono (n.evo.tup a1))) (fun _ b6 b5=>Sz b5 fun m b1 a3 q=>?_) fun zz zz e=>e))));exact fun Γ p zz=>by rw[Sem.wp_release];exact⟨ρ,m,a6.step b1 a3,(a2.trans (n.trans a3)).toF,q⟩
theorem dZ(q:Q Unit.unit s):AR (Ae pg w) A (Lk vs ks) Q E s:=fun n p m=>by rw[Sem.wp_release];exact q
theorem gk(k:EV A env o ρ σ fun ov n=>EV A env i ρ n fun iv σ₂=>WW A Nl ov iv σ₂ (fun m=>Φ .next ρ m)):
  Eg A env (.Delete [.Subscript o i p] b6) ρ σ Φ:=fun s S=>by
 refine wpAny_Delete (wpAny_deleteEach_cons ?_);rw[show delete (.Subscript o i p) env=(do
  let ov ←A0 o env;let iv ←CS [ov] (A0 i env)
  Ck p
  CS [ov,iv] (Nl ov iv)
  Lk [ov,iv] [])from rfl]
 refine AE (AT (k s S) (fun ov s₁ b3=>BG b3 fun oa n a9 a1 a4 a7=>?_) fun zz zz e=>e);have a3:=S.step a1 a4;refine AE (CF (AT (a7 s₁ a3) (fun iv s₂ a8=>BG a8 fun ia σ₂ b1 a5 a0 b2=>?_) fun zz zz e=>e));have a6:=a3.step a5 a0;refine AE (EJ (AE (CF (AT (b2 s₂ ov iv a5 (a9.mono (a0.evo.tup a1)) b1) (fun _ b5 b4=>Sz b4 fun m b0 a2 q=>?_) fun zz zz e=>e))));exact dZ (wpAny_deleteEach_nil ⟨.next,ρ,m,trivial,a6.step b0 a2,(a4.trans (a0.trans a2)).toF,q⟩)
def Kt(a n:Int)(st:Int)(i:Nat):Bool:=
 if st>0 then a≤i&&i<n&&(i-a)%st==0
 else n<i&&i≤a&&(a-i)%(-st)==0
theorem v5(a:Nat):∀(xs:List Value)(k:Nat)(n:Nat),k+xs.length≤n→
  ((xs.zipIdx k).filterMap fun(x,i)=>if Kt a n 1 i then none else some x)=xs.take (a-k):=by
 intro xs
 induction xs with
 |nil=>
  intro k n _;simp
 |cons x xs m=>
  intro k n h;rw[List.zipIdx_cons,Np];have ih:=m (k+1) n (by rw[Tb]at h;exact BS qA h);rw[Tb]at h;by_cases c:k<a
  ·have:Kt a n 1 k=false:=by
    unfold Kt;simp;intro;exact BS xo (by assumption) (by assumption)
   simp only[this];rw[if_neg Gq];simp only[ih];rw[show a-k=(a-(k+1))+1 by exact xf c,List.take_succ_cons]
  ·have:Kt a n 1 k=true:=by
    unfold Kt;simp;exact Cb w7 h (by assumption)
   simp only[this,if_true];rw[ih,show a-(k+1)=0 by exact j9 c,show a-k=0 by exact lP c];simp
def T5(s:AQ)(A:Ab)(l:AB)(items:Array Value)(sl:AB)(tk:Tok)(Q:Unit→AQ→Prop)(E:Value→AQ→Prop)(n:Nat)(a:Nat):Prop:=∀(o:s.heap.get? l=some {cls:=.type "list",data:=.seq items n})(a0:s.heap.IsSliceOf sl (.int a tk) .none .none)(hz:items.size≤Nj)(ha:a≤items.size)(hQ:∀h',E9 l s.heap h'→(∃m,h'.get? l=some {cls:=.type "list",data:=.seq (items.toList.take a).toArray m})→Q Unit.unit {s with heap:=h'}),AR (Ae pg w) A (Nl (.ref l) (.ref sl)) Q E s
def cm:(((AQ×Ab)×AB)×(Array Value×AB))×(((Tok×(Unit→AQ→Prop))×(Value→AQ→Prop))×(Nat×Nat))→Prop:=fun t=>T5 t.1.1.1.1 t.1.1.1.2 t.1.1.2 t.1.2.1 t.1.2.2 t.2.1.1.1 t.2.1.1.2 t.2.1.2 t.2.2.1 t.2.2.2
def H0:=zE cm (((({},{}),0),(#[],0)),(((Bk,(fun _ _=>True)),(fun _ _=>True)),(0,0)))
def MF:=H0.1.1.1.1
def pB:=H0.1.1.1.2
def Rw:=H0.1.1.2
def FH:=H0.1.2.1
def RE:=H0.1.2.2
def ZI:=H0.2.1.1.1
def kR:=H0.2.1.1.2
def wH:=H0.2.1.2
def Q5:=H0.2.2.1
def FC:=H0.2.2.2
theorem kP:T5 MF pB Rw FH RE ZI kR wH Q5 FC:=fun o a4 hz ha hQ=>by
 have hl:MF.heap.IsList Rw FH:=⟨_,o,rfl,Q5,rfl⟩;refine B2 (id a4) fun os a0 a3 a1=>?_;have a2:MF.TypeIs (.ref RE) "slice":=⟨os,a0,a3⟩;refine iM hl.typeIs ⋯ F.slot_list_delitem (HM F.slot_list_delitem hl.typeIs F.entry_list_delitem ?_ (F.args_list_delitem_2 _ _));show AR _ _ (iX (.ref RE)>>=_) _ _ MF;refine AE ?_;unfold iX;refine AE (Ta a2 slice_no_index ?_);simp -iota only[Option.isNone_none,if_true];refine Ad ?_;show AR _ _ (Nc (.ref RE)>>=_) _ _ MF;refine AE (Xs a2 ?_);rw[if_neg ⋯];rw[listSliceParts_eq];refine AE (AE (Ka a0 a1 (x:=.none) rfl (AE (iY .none ?_))));rw[if_neg ⋯];refine AE (Ka a0 a1 (x:=.int FC ZI) rfl (AE (iY (.int _ _) ?_)));refine AE (Ka a0 a1 (x:=.none) rfl (AE (iY .none (Ad ?_))));refine AE (m:=Zdk (.ref Rw)) ?_;unfold Zdk;refine AE (iZ o rfl (Ad ?_));refine AE (Lo (sliceIndices_raw (some (FC:Int)) none none FH.size (!(by intro e;injection e))) ?_);have eb:sliceBounds (some (FC:Int)) none none FH.size=((FC:Int),(FH.size:Int),1):=by
  have e:max 0 (min (if(FC:Int)<0 then(FC:Int)+FH.size else FC) FH.size)=(FC:Int):=by rw[if_neg (iA.mpr (Xq FC)),Int.min_eq_left (gr.mpr ha),Int.max_eq_right (Xq FC)]
  exact congrArg (fun z=>(z,(FH.size:Int),(1:Int))) e
 rw[eb];refine AE (Lv (AE ?_));show AR _ _ (updateSeq Rw (fun xs=>(xs.toList.zipIdx.filterMap fun(x,k)=>if Kt (FC:Int) (FH.size:Int) 1 k then none else some x).toArray)) _ _ MF;have n:(FH.toList.zipIdx.filterMap fun(x,k)=>if Kt (FC:Int) (FH.size:Int) 1 k then none else some x)=FH.toList.take FC:=by
  have:=v5 FC FH.toList 0 FH.size (by simp);simpa using this
 refine ib o rfl ?_ hz (by rw[n];simp;exact pQ hz);refine AE (wpAny_letGo (Ad ⟨.none,rfl,?_⟩));refine hQ _ (Ei ..) ⟨if(FH.toList.take FC).toArray.size==FH.size then Q5 else Q5+1,(GS _ o rfl).trans ?_⟩;rw[←n];rfl
theorem vZ{s A l items m tk Q E n a}:T5 s A l items m tk Q E n a:=@zF _ cm _ @kP ((((s,A),l),(items,m)),(((tk,Q),E),(n,a)))
theorem zy{l:AB}{xs:List AV}{a:Nat}{Φ:AA→Prop}(e:σ l=some (.list xs))(ha:a≤xs.length)(hz:xs.length≤1000000)(q:Φ (upd σ l (.list (xs.take a)))){s:AQ}{sl:AB}{tk:Tok}(g:G σ s.heap)(a1:s.heap.IsSliceOf sl (.int a tk) .none .none):
  QX A (Nl (.ref l) (.ref sl)) σ s Φ:=by
 refine Ci ((g.own _ _ e).2) fun items n o qs=>?_;have l1:=qs.toArr;exact vZ o a1 (by rw[CG];exact ln (AK (Ac l1) hz) rfl) (!AK ha (Ac l1.symm)) fun h' hs a0=>AX a0 fun m o'=>⟨_,g.set (y:=.list (xs.take a)) e hs fun tk=>⟨_,_,o',(qs.mono tk).take⟩,.set e hs rfl rfl,q⟩
theorem XE(k:EV A env o ρ σ fun ov n=>EV A env m ρ n fun iv σ₂=>∃(l:AB)(xs:List AV)(a:Nat),ov=.ref l∧iv=.int a∧σ₂ l=some (.list xs)∧a≤xs.length∧xs.length≤1000000∧Φ .next ρ (upd σ₂ l (.list (xs.take a)))):
  Eg A env (.Delete [.Subscript o (.Slice (some m) none none p0) p] c2) ρ σ Φ:=fun s S=>by
 refine wpAny_Delete (wpAny_deleteEach_cons ?_);rw[show delete (.Subscript o (.Slice (some m) none none p0) p) env=(do
  let ov ←A0 o env;let iv ←CS [ov] (A0 (.Slice (some m) none none p0) env)
  Ck p
  CS [ov,iv] (Nl ov iv)
  Lk [ov,iv] [])from rfl]
 refine AE (AT (k s S) (fun ov s₁ b3=>BG b3 fun oa n b0 a6 a2 a9=>?_) fun zz zz e=>e);have a0:=S.step a6 a2;refine AE (CF (wpAny_Slice ?_));rw[evalPart_some];refine AT (a9 s₁ a0) (fun iv s₂ b5=>BG b5 fun ia σ₂ b2 a3 a1 b4=>PE b4 fun l xs a e1 e2 e3 ha hz q=>?_) fun zz zz e=>e;subst e1 e2;obtain rfl:=VR.inv_ref b0;refine AX b2.inv_int fun tk a8=>?_;subst a8;rw[Xr];refine Ad (Ad ?_);have b7:=a0.step a3 a1;have b1:=a3.push {cls:=.type "slice",data:=.fields #[.int (a:Int) tk,.none,.none]};refine AE (EJ (AE (CF (AT (zy (Φ:=fun σ'=>Φ .next ρ σ') e3 ha hz q (s:={s₂ with heap:=s₂.heap.push {cls:=.type "slice",data:=.fields #[.int (a:Int) tk,.none,.none]}}) b1 ⟨_,Bz _ rfl,rfl,rfl⟩) (fun _ c1 b6=>Sz b6 fun a5 a4 a7 q=>?_) fun zz zz e=>e))))
 have T:=a1.trans ((Ar.push _).trans a7);exact dZ (wpAny_deleteEach_nil ⟨.next,ρ,a5,trivial,a0.step a4 T,(a2.trans T).toF,q⟩)
abbrev BI(is:List Int):List AV:=is.map .int
theorem Vd{is:List Int}{vs:List Value}(r:VRs h (BI is) vs):Ji vs is:=VRs.ind (P:=fun xs vs=>∀is,xs=BI is→Ji vs is) (fun is e=>by cases is with|nil=>exact .nil|cons i is=>cases e) (fun{x v xs vs} a b n is e=>by
 cases is with
 |nil=>cases e
 |cons i is=>
  have e:=iN e;have a:=e.1▸a;refine AX a.inv_int fun t m=>?_;subst m;exact .cons i t (n _ e.2)) r is rfl
theorem Yi:∀{is:List Int}{vs:List Value},Ji vs is→VRs h (BI is) vs
 :=fun q=>by induction q with|nil=>exact .nil|cons n t _ m=>exact .cons (.int n t) m
theorem Wl{is:List Int}{vs:List Value}(r:VRs h (BI is) vs):∃ps:List (Int×Tok),vs=ps.map (fun p=>.int p.1 p.2)∧ps.map (·.1)=is:=by
 have q:=Vd r;clear r
 induction q with
 |nil=>exact⟨[],rfl,rfl⟩
 |cons i t a m=>exact AI m fun ps e1 n=>⟨(i,t)::ps,by rw[e1];rfl,by rw[CB,n]⟩
theorem ZP{h:A3}{vs:List Value}{out:Array Value}:(∀b o,h.get? b=some o→(sortedAll h vs out).get? b=some o)∧∃n,(sortedAll h vs out).get? (h.objs.size+1)=some {cls:=.type "list",data:=.seq out n}:=by
 unfold sortedAll Tc;have m:((h.push (Bn "list" #[] 0)).update h.objs.size (DV (· ++vs.toArray))).objs.size=h.objs.size+1:=by rw[QH,Xu]
 constructor
 ·intro b o e;have hb:=DJ e;rw[HO _ _ (HP (Hx hb))];refine BC _ (BC _ ?_);rw[HO _ _ (HP (Hx hb))];refine BC _ ?_;rw[HO _ _ (HP hb)];exact BC _ e
 ·have e1:(((h.push (Bn "list" #[] 0)).update h.objs.size (DV (· ++vs.toArray))).push (Bn "list" vs.toArray 0)).get? (h.objs.size+1)=some (Bn "list" vs.toArray 0):=by
   rw[←m];exact Bz _ rfl
  obtain⟨n1,e2⟩:∃n1,((((h.push (Bn "list" #[] 0)).update h.objs.size (DV (· ++vs.toArray))).push (Bn "list" vs.toArray 0)).update (h.objs.size+1) (DV fun zz=>#[])).get? (h.objs.size+1)=some (Bn "list" #[] n1):=⟨_,Td e1 (fun zz=>#[])⟩;have e3:=BC (Bn "list" #[] 0) (BC (Bn "tuple" vs.toArray 0) e2);exact⟨_,Td e3 (fun zz=>out)⟩
theorem Zbm:∀{xs:List AV}{vs:List Value},xs.length=vs.length→(∀(i:Nat) x v,xs[i]? =some x→vs[i]? =some v→VR h x v)→VRs h xs vs:=fun{xs}=>by
 induction xs with
 |nil=>intro vs e k;cases vs with|nil=>exact .nil|cons v vs=>cases e
 |cons x xs m=>intro vs e k;cases vs with|nil=>cases e|cons v vs=>exact .cons (k 0 x v rfl rfl) (m (XT e) fun i y u h1 n=>k (i+1) y u h1 n)
theorem Yx(g:G σ h)(n:h.get? D=none):σ D=none∧hb.get? D=none:=by
 constructor
 ·cases q:σ D with
  |none=>rfl
  |some z=>refine AI ((g.own _ z q).2.there) fun ob e m=>?_;exact Au ((n.symm.trans e))
 ·cases q:hb.get? D with
  |none=>rfl
  |some o=>exact Bf (((g.base _ _ q).symm.trans n))
theorem S8{Φ:AV→AA→Prop}{D:AB}{h':A3}{tk:Tok}{items:Array Value}{n:Nat}{xs:List AV}(g:G σ s.heap)(k:∀b o,s.heap.get? b=some o→h'.get? b=some o)(hD:s.heap.get? D=none)
  (e:h'.get? D=some {cls:=.type "list",data:=.seq items n})(r:VRs h' xs items.toList)(q:∀D,σ D=none→hb.get? D=none→Φ (.ref D) (upd σ D (.list xs))):
  PV σ s Φ (.ref D) {s with heap:=h',toks:=tk}:=by
 refine AL (Yx g hD) fun n1 m=>?_;exact⟨.ref D,upd σ D (.list xs),.ref _,(g.keeps k).adopt m ⟨items,n,e,r⟩,(Ar.keeps (s':={s with heap:=h',toks:=tk}) k rfl rfl).adopt (fun zz=>hD),q D n1 m⟩
theorem Sr{l:AB}{is:List Int}{Φ:AV→AA→Prop}(e:σ l=some (.list (BI is)))(a1:is.length<64)
  (q:∀js,js.Perm is→js.Pairwise (· ≤·)→∀D,σ D=none→hb.get? D=none→Φ (.ref D) (upd σ D (.list (BI js)))):AF A (.builtin "sorted") [.ref l] σ Φ:=fun s vs g r=>by
 refine Jf r ?_;refine Ci ((g.own _ _ e).2) fun items n o qs=>?_;have hI:=Vd qs;have a0:items.toList.length=is.length:=by rw[←qs.length,AU]
 refine sorted_ints (vs:=items.toList) ⟨_,o,rfl,n,by simp⟩ hI (!AK (CD (Ac a0)) a1) fun out js hO hp hs=>?_;refine Fw (ZP (h:=s.heap) (vs:=items.toList) (out:=out)) fun k m eo=>?_;exact S8 g k (Ie (Gv _)) eo (Yi hO) (q js hp hs)
theorem KS(e:σ l=some (.list xs))(hl:xs.length≤100000)
  (q:∀D,σ D=none→hb.get? D=none→Φ (.ref D) (upd σ D (.list xs))):AF A (.type "list") [.ref l] σ Φ:=fun s vs g r=>by
 refine Jf r ?_;refine Ci ((g.own _ _ e).2) fun items n o qs=>?_;have l1:=qs.toArr;refine call_list_seq l (.inl rfl) o rfl rfl (fun h' c' k eo=>?_) (by rw[CG];exact ln (AK (Ac l1) hl) rfl);exact S8 (tk:=s.toks) g k (GK _) eo (qs.mono fun m m m m e m m=>k _ _ e) q
theorem LZ(e:σ l=some (.list xs))(hl:xs.length≤100000)(q:Φ (.tup xs) σ):AF A (.type "tuple") [.ref l] σ Φ:=fun s vs g r=>by
 refine Jf r ?_;refine Ci ((g.own _ _ e).2) fun items n o qs=>?_;have l1:=qs.toArr;refine call_tuple_list ⟨_,o,rfl,n,rfl⟩ (fun h' k=>?_) (by rw[CG];exact ln (AK (Ac l1) hl) rfl);have k':∀b o,s.heap.get? b=some o→(h'.push {cls:=.type "tuple",data:=.seq items}).get? b=some o:=fun b o e=>BC _ (k b o e);exact⟨.tup xs,σ,.tup (Bz _ rfl) (qs.mono fun m m m m e m m=>k' _ _ e),g.keeps k',.keeps k' rfl rfl,q⟩
theorem gU(q:Φ (.tup xs) σ):AF A (.type "tuple") [.tup xs] σ Φ:=fun s vs g r=>by
 refine gO r fun a items n e m=>?_;exact call_tuple_same ⟨_,e,rfl,n,rfl⟩ ⟨.tup xs,σ,.tup e m,g,.refl _ _,q⟩
theorem Zcg{l:AB}{is:List Int}{Φ:AV→AA→Prop}(hh:A.handled=none)(e:σ l=some (.list (BI is)))(q:∀i,Φ (.int i) σ):AF A (.builtin "sum") [.ref l] σ Φ:=fun s vs g r=>by
 refine Jf r ?_;refine Ci ((g.own _ _ e).2) fun items n o qs=>?_;refine AI (Wl qs) fun ps e1 e2=>?_;have m:items=QI ps.toArray:=by
  unfold QI;apply ic.mp;rw[e1];simp
 refine sum_intListG (xs:=ps.toArray) hh ⟨_,o,rfl,n,by rw[←m]⟩ fun h' tk t' k=>?_;exact⟨.int _,σ,.int _ _,g.keeps k,.keeps k rfl rfl,q _⟩
theorem qM(ps:List (Int×Tok)):∀n,n≤ps.length→preSum (numAt ps.toArray) n=((ps.map (·.1)).take n).sum:=by
 intro n
 induction n with
 |zero=>intro _;rfl
 |succ n ih=>
  intro hn;have:preSum (numAt ps.toArray) (n+1)=preSum (numAt ps.toArray) n+numAt ps.toArray n:=rfl;rw[this,ih (!Ct hn),Gy,List.sum_append];congr 1;unfold numAt;have m:n<ps.length:=by exact hn
  simp[m]
theorem Zd1(hh:A.handled=none)(e:σ l=some (.list (BI is)))(q:Φ (.int is.sum) σ):AF A (.builtin "sum") [.ref l] σ Φ:=fun s vs g r=>by
 refine Jf r ?_;refine Ci ((g.own _ _ e).2) fun items n o qs=>?_;refine AI (Wl qs) fun ps e1 m=>?_;have hi:items=QI ps.toArray:=by
  unfold QI;apply ic.mp;rw[e1];simp
 refine sum_intListG (xs:=ps.toArray) hh ⟨_,o,rfl,n,by rw[←hi]⟩ fun h' tk t' k=>?_;refine⟨.int is.sum,σ,?_,g.keeps k,.keeps k rfl rfl,q⟩;have:preSum (numAt ps.toArray) ps.toArray.size=is.sum:=by
  rw[show ps.toArray.size=ps.length by exact rfl,qM ps _ (A9 _),m,Ig (by rw[←m];simp)]
 rw[this];exact .int _ _
theorem Zc1{l:AB}{is:List Int}{Φ:AV→AA→Prop}(hh:A.handled=none)(e:σ l=some (.list (BI is)))(a0:is≠[])(q:∀i,Φ (.int i) σ):AF A (.builtin "max") [.ref l] σ Φ:=fun s vs g r=>by
 refine Jf r ?_;refine Ci ((g.own _ _ e).2) fun items n o qs=>?_;refine AI (Wl qs) fun ps e1 e2=>?_;have hi:items=QI ps.toArray:=by
  unfold QI;apply ic.mp;rw[e1];simp
 refine max_intList (xs:=ps.toArray) hh ⟨_,o,rfl,n,by rw[←hi]⟩ (by
  cases ps with
  |nil=>exact absurd e2.symm a0
  |cons p r=>exact Cu _) fun v h' tk hv k=>?_
 refine AX (intItems_at hv) fun t m=>?_;subst m;exact⟨.int _,σ,.int _ _,g.keeps k,.keeps k rfl rfl,q _⟩
theorem gZ(m:A.handled=none)(q:Φ (.int (if b>a then b else a)) σ):AF A (.builtin "max") [.int a,.int b] σ Φ:=fun s vs g r=>by
 refine Zbo r fun t u=>?_;refine max_two_ints m fun h' tk k=>⟨.int (if b>a then b else a),σ,?_,g.keeps k,.keeps k rfl rfl,q⟩;split<;>exact .int _ _
set_option tactic.hygienic true in
theorem Zc2(q:Φ (.int (if a<0 then -a else a)) σ):AF A (.builtin "abs") [.int a] σ Φ:=fun s vs g r=>by
 refine Zci r fun t=>?_;exact call_abs_int fun u tk=>⟨.int _,σ,.int _ _,g,.toks _,q⟩
set_option tactic.hygienic true in
theorem Zcc(hh:A.handled=none)
  (k:EV A env (.Name f1 p1) ρ σ fun fv a6=>fv=.fix (.type "list")∧EV A env (.Name f2 p2) ρ a6 fun fv a1=>fv=.fix (.type "range")∧AC A env q2 [x] ρ a1 fun xs σ₂=>∃n:Nat,xs=[.int n]∧n<1000000∧
   ∀D,σ₂ D=none→hb.get? D=none→Φ (.ref D) (upd σ₂ D (.list (BI ((B3 n).map fun(i:Nat)=>(i:Int))))))
  (hp:autoParam (CJ [x]=true) aR)(he:autoParam (∀env,BZ [.Call (.Name f2 p2) [x] [] q2] env=[(false,A0 (.Call (.Name f2 p2) [x] [] q2) env)]) aI):
  EV A env (.Call (.Name f1 p1) [.Call (.Name f2 p2) [x] [] q2] [] q1) ρ σ Φ:=fun s S=>
 TO (AT (k s S) (fun u s₁ a4=>BG a4 fun fv a1 r g t a4=>AL a4 fun e1 a9=>by
  subst e1;obtain rfl:=VR.inv_fix r;have c2:=S.step g t;have b0:CJ [Expr.Call (.Name f2 p2) [x] [] q2]=true:=rfl;refine hF (Er b0) (GX (Er b0) ?_);refine TL (e:=.Call (.Name f2 p2) [x] [] q2) (rest:=[]) (Oa c2 (a9.mono fun fv σ₂ c4=>AL c4 fun e2 b7=>⟨_,e2,fun s₂ b4=>AT (b7 s₂ b4) (fun vs c6 a5=>GM a5 fun xs a0 a8 b2 a7 a5=>B2 a5 fun n e3 hn q=>⟨xs,a0,a8,b2,a7,fun m vs b6 b3 b1=>?_⟩) fun _ _ e=>e⟩) hp) (he _);subst e3;cases b3 with
  |cons r r'=>
   cases r';obtain⟨_,rfl⟩:=VR.inv_int r;rename_i a2;refine call_range_1 (TJ ?_);have sm:=de (a:=0) (b:=n) (!Yc) (!SL hn);have hr:IsRange (m.heap.push {cls:=.type "range",data:=.fields #[.int 0 m.toks,.int (n:Int) a2,.int 1 (m.toks+1)]}) m.heap.objs.size 0 n 1 _ _ _:=Bz _ rfl;refine call_list_range hh hr sm.1 (n:=n) (by rw[sm.2];exact xm) (!ln (Ct hn) rfl) fun h' tk c5 c k eo a3=>?_;have T:=(t.trans b1).trans ((Ar.push (σ:=a0) {cls:=.type "range",data:=.fields #[.int 0 m.toks,.int (n:Int) a2,.int 1 (m.toks+1)]}).trans (.toks (m.toks+1+1)));have gg:=b6.push {cls:=.type "range",data:=.fields #[.int 0 m.toks,.int (n:Int) a2,.int 1 (m.toks+1)]};have hv:VRs h' (BI ((B3 n).map fun(i:Nat)=>(i:Int))) c5.toList:=by
    refine Zbm (by simp[a3.1]) fun i y v h1 h2=>?_;unfold BI at h1;rw[Bu,CH]at h1;refine AI (Pt.mp h1) fun j hj b5=>?_;subst b5;have c3:j=i:=by
     refine AX (BX.mp hj) fun hi e=>?_;rw[List.getElem_range]at e;exact e.symm
    refine AX (a3.2 i v (by rw[←Dp];exact h2)) fun c8 c1=>?_;subst c1;rw[c3];have:(0:Int)+(i:Int)*1=(i:Int):=by exact vT
    rw[this];exact .int _ _
   refine BG (S8 (s:={m with heap:=m.heap.push {cls:=.type "range",data:=.fields #[.int 0 m.toks,.int (n:Int) a2,.int 1 (m.toks+1)]},toks:=m.toks+1+1}) (tk:=tk) gg k (GK _) eo hv q) fun av σ' r1 r2 r3 r4=>?_;exact⟨av,σ',r1,r2,T.trans r3,r4⟩) fun _ _ e=>e)
mutual
inductive DA(σ:AA):AV→Lw→Prop
 |int (i:Int):DA σ (.int i) (.int i)
 |str (x:Str):DA σ (.str x) (.str x)
 |tup {xs:List AV} {ds:List Lw}:DAs σ xs ds→DA σ (.tup xs) (.tuple ds)
 |list {l:AB} {xs:List AV} {ds:List Lw}:σ l=some (.list xs)→DAs σ xs ds→DA σ (.ref l) (.list ds)
inductive DAs(σ:AA):List AV→List Lw→Prop
 |nil:DAs σ [] []
 |cons {x:AV} {d:Lw} {xs:List AV} {ds:List Lw}:DA σ x d→DAs σ xs ds→DAs σ (x::xs) (d::ds)
end
theorem DA.reads(g:G σ h)(D:DA σ x d):VR h x v→∃m,Reads h v d m:=
 @DA.rec σ (fun x d zz=>∀{v},VR h x v→∃m,Reads h v d m) (fun xs ds zz=>∀{vs},VRs h xs vs→∃m,ReadsAll h vs ds m)
  (fun i v r=>AX (VR.inv_int r) fun zz e=>e▸⟨_,.int _ _⟩) (fun i v r=>AX (VR.inv_str r) fun zz e=>e▸⟨_,.str _ _⟩)
  (fun zz ih v r=>by cases r with|tup e rs=>exact(ih rs).elim fun m ra=>⟨_,.tuple e rfl rfl ra⟩)
  (fun e zz ih v r=>by
   obtain rfl:=VR.inv_ref r;exact Ci ((g.own _ _ e).2) fun items n o rs=>(ih rs).elim fun m ra=>⟨_,.list o rfl rfl ra⟩)
  (fun r=>by cases r;exact⟨_,.nil⟩)
  (fun zz zz h1 h2 vs r=>by cases r with|cons r1 r2=>exact(h1 r1).elim fun m ra=>(h2 r2).elim fun bs rb=>⟨_,.cons ra rb⟩) x d D v
theorem gn{x y:AV}{d e:Lw}{Φ:AV→AA→Prop}(R:Ah A 4)(a:DA σ x d)(b:DA σ y e)(hd:Ii d=true)(n:Ii e=true)(q:Φ (.bool (HQ d e)) σ):AM A (Dx .Eq) x y σ Φ:=fun s u v g r1 m=>by
 refine AX (a.reads g r1) fun as ra=>?_;refine AX (b.reads g m) fun bs rb=>?_;exact eq_dataH ra rb hd n (by have:=R.units;exact this) ⟨_,σ,.bool _,g,.refl _ _,q⟩
theorem XO{x y:AV}{d e:Lw}{Φ:AV→AA→Prop}(R:Ah A 4)(a:DA σ x d)(b:DA σ y e)(hd:Ii d=true)(n:Ii e=true)(q:Φ (.bool (not (HQ d e))) σ):AM A (Dx .NotEq) x y σ Φ:=fun s u v g r1 m=>by
 refine AX (a.reads g r1) fun as ra=>?_;refine AX (b.reads g m) fun bs rb=>?_;exact ne_dataH ra rb hd n (by have:=R.units;exact this) ⟨_,σ,.bool _,g,.refl _ _,q⟩
theorem Zch(R:Ah A 5)(a:DA σ x d)(b:DA σ y (.list ds))(hd:Ii d=true)(m:Ii (.list ds)=true)(q:Φ (.bool (ds.any fun y=>HQ y d)) σ):AM A (Dx .In) x y σ Φ:=fun s u v g r1 n=>by
 refine AX (a.reads g r1) fun as ra=>?_;refine AX (b.reads g n) fun bs rb=>?_;unfold Ii at hd m;rw[Fg,decide_eq_true_eq]at hd m;have h2:=Nat.min_le_right (ie ds) d.depth;exact SeqAt.in_list_reads rb ra (by simpa[ig]using m.1) hd.1 (by have:=R.units;refine Xv ?_ this;rw[Nat.add_assoc];exact Nat.add_le_add_left (AK (Nat.add_le_add_left (AK (Nat.min_le_right _ _) hd.2) 1) ⋯) _) ⟨_,σ,.bool _,g,.refl _ _,q⟩
theorem gM(k:EV A env a0 ρ σ fun v m=>∃b,v=.bool b∧if b then EV A env a3 ρ m Φ else Φ (.bool false) m):EV A env (.BoolOp .And [a0,a3] a5) ρ σ Φ:=fun s S=>
 BoolOp_and (AT (k s S) (fun v s₁ n=>BG n fun av m r g t n=>AI n fun b e1 q=>by
  subst e1;obtain rfl:=Po r;refine Pv ?_;cases b with
  |false=>exact⟨_,m,.bool _,g,t,q⟩
  |true=>exact BoolOp_one (AT (q s₁ (S.step g t)) (fun v s₂ a4=>BG a4 fun av σ₂ r a2 a1 q=>⟨av,σ₂,r,a2,t.trans a1,q⟩) fun zz zz e=>e)) fun zz zz e=>e)
theorem eH(B:Ai)(g:G σ h):h.objs.size≠1:=fun e=>by
 have:∃o,(KK w).lookup 567=some o:=⟨_,rfl⟩;refine AX this fun o m=>?_;have:=DJ (g.base _ _ (B.K _ _ m));rw[e]at this;exact absurd this ⋯
theorem S5(B:Ai)(n:∀h a,h.get? a=some {cls:=.type "dict",data:=.dict #[]}→Eb w h a x)(q:∀a,σ a=none→hb.get? a=none→a≠1→Φ (.ref a) (upd σ a x)):
  EV A env (.Dict [] [] m) ρ σ Φ:=fun s S=>by
 refine wpAny_Dict_empty ⟨.ref _,upd σ s.heap.objs.size x,.ref _,S.g.pushOwn _ (n _ _ (Bz _ rfl)),.pushOwn _ _,q _ S.g.fresh.1 S.g.fresh.2 (eH B S.g)⟩
theorem Vu(w:AD):∀h a,h.get? a=some {cls:=.type "dict",data:=.dict #[]}→Eb w h a (.dictI []):=fun h a e=>⟨[],⟨_,#[],0,e,⟨rfl,rfl,rfl⟩,rfl,fun n m=>by simp at m,.nil,ii⟩,.nil⟩
theorem VB(w:AD):∀h a,h.get? a=some {cls:=.type "dict",data:=.dict #[]}→Eb w h a (.dictT []):=fun h a e=>⟨[],⟨_,#[],0,e,⟨rfl,rfl,rfl⟩,rfl,rfl,fun n m=>by simp at m,ii⟩,.nil⟩
theorem Zam{C:AB}{l:List Value}{kw:List (Str×Value)}:(Te "type.__call__" ⟨.ref C::l,kw⟩).weight=1∧(Te "type.__call__" ⟨.ref C::l,kw⟩).cUnits=1:=by
 constructor
 ·have n:(Te "type.__call__" ⟨.ref C::l,kw⟩).frames=0:=by rfl
  have m:(Te "type.__call__" ⟨.ref C::l,kw⟩).isGuard=false:=by
   show guardIds.contains "type.__call__"=false;decide+kernel
  have h3:(Te "type.__call__" ⟨.ref C::l,kw⟩).isCaller=false:=by rfl
  unfold Code.weight;rw[n,m,h3];rfl
 ·rfl
theorem Ah.make{n:Nat}(r:Ah A (n+1)){C:AB}{l:List Value}{kw:List (Str×Value)}:Ah (A.under (.builtin "type.__call__" ⟨.ref C::l,kw⟩)) n:=by
 refine AL (Zam (C:=C) (l:=l) (kw:=kw)) fun w1 m=>?_;refine⟨?_,?_,r.handled⟩
 ·show A.depth+Code.weight _+2*n<_;rw[w1];have:=r.depth;exact BS eB this
 ·show A.units+Code.cUnits _+16*n<_;rw[m];have:=r.units;exact BS qm this
structure OQ(w:AD)(C fI:AB):Prop where
 m:makesIn (KK w) C=true
 i:Pz (KK w) (.ref C) "__init__"=some (some (.ref fI))
 f:typeIn (KK w) (.ref fI)=some (.type "function")
theorem Sy(B:Ai)(X:OQ w C fI)(R:Ah A (n+1))
  (k:∀A',Ah A' n→∀x dx,σ x=none→hb.get? x=none→σ dx=none→hb.get? dx=none→x≠dx→
   Du A' (.ref fI) (.ref x::args) (upd (upd σ dx (.ns 0 fun zz=>none)) x (.inst C dx)) fun v σ'=>v=.none∧Φ (.ref x) σ'):AF A (.ref C) args σ Φ:=fun s vs g r=>by
 obtain⟨hh,gg,d,t,os⟩:=s;have XK:(KK w).In hh:=fun a o e=>g.base _ _ (B.K a o e);refine KW (make_core (makes_of XK X.m) (ij XK X.i) (fun self=>bind_fn XK self X.f) (.inl rfl) ?_);have n1:=g.fresh;have a8:(hh.push EL).get? hh.objs.size=some EL:=Bz _ rfl;have g1:G (upd σ hh.objs.size (.ns 0 fun zz=>none)) (hh.push EL):=g.pushOwn EL ⟨_,#[],0,a8,rfl,rfl,fun zz he=>by simp at he,A9 _,fun y=>⟨fun zz=>by unfold Ib findBy;exact rfl,fun x e=>!Au e⟩⟩;have a0:(hh.push EL).objs.size=hh.objs.size+1:=Jk ..;have n2:=g1.fresh;rw[a0]at n2;have g2:G (upd (upd σ hh.objs.size (.ns 0 fun zz=>none)) (hh.objs.size+1) (.inst C hh.objs.size)) ((hh.push EL).push (QJ C hh.objs.size)):=by
  have:=g1.pushOwn (QJ C hh.objs.size) (x:=.inst C hh.objs.size) (by
   show Heap.get? _ _=_;exact Bz _ rfl)
  rw[a0]at this;exact this
 have a6:hh.objs.size+1≠hh.objs.size:=Nat.succ_ne_self _;have a7:σ (hh.objs.size+1)=none:=by
  have:=n2.1;rw[Av _ _ a6]at this;exact this
 have kk:∀b o,hh.get? b=some o→((hh.push EL).push (QJ C hh.objs.size)).get? b=some o:=fun b o e=>BC _ (BC _ e);have z:=k _ (R.make (C:=C) (l:=vs) (kw:=[])) (hh.objs.size+1) hh.objs.size a7 n2.2 n1.1 n1.2 a6 ⟨(hh.push EL).push (QJ C hh.objs.size),gg,d,t,os⟩ (.ref (hh.objs.size+1)::vs) g2 (.cons (.ref _) (r.mono fun zz zz zz zz e zz zz=>kk _ _ e));refine Nq z fun rr s' hr=>?_;have SO:Ar σ ⟨hh,gg,d,t,os⟩ (upd (upd σ hh.objs.size (.ns 0 fun zz=>none)) (hh.objs.size+1) (.inst C hh.objs.size)) ⟨(hh.push EL).push (QJ C hh.objs.size),gg,d,t,os⟩:=by
  have a1:Ar σ ⟨hh,gg,d,t,os⟩ (upd σ hh.objs.size (.ns 0 fun zz=>none)) ⟨hh.push EL,gg,d,t,os⟩:=Ar.pushOwn (s:=⟨hh,gg,d,t,os⟩) _ _;have a2:=Ar.pushOwn (σ:=upd σ hh.objs.size (.ns 0 fun zz=>none)) (s:=⟨hh.push EL,gg,d,t,os⟩) (QJ C hh.objs.size) (.inst C hh.objs.size);have e:(⟨hh.push EL,gg,d,t,os⟩:AQ).heap.objs.size=hh.objs.size+1:=a0;have a3:=a1.trans a2;rw[e]at a3;exact a3
 cases rr with
 |error e=>exact hr.elim
 |ok fl=>
  cases fl with
  |ret v=>
   refine BG hr fun av σ' r' g' t' a5=>?_;refine AL a5 fun a4 q=>?_;subst a4;obtain rfl:=XN r';exact⟨rfl,.ref _,σ',.ref _,g',SO.trans t',q⟩
  |_=>exact hr.elim
theorem Zp{K:Frag}{C:AB}{m:ClassData}(e:clsIn K C=some m):∃o,K.lookup C=some o∧o.data=.cls m:=by
 unfold clsIn at e;cases h:K.lookup C with
 |none=>rw[h]at e;exact Au e
 |some o=>
  rw[h]at e;obtain⟨c,d,n,sl⟩:=o;cases n<;>first|exact Au e|(obtain rfl:=An e;exact⟨_,rfl,rfl⟩)
def Cm(A:Ab)(c:Code)(env:Af)(t:Sem Ic)(ρ:AW)(σ:AA)(Φ:CK→AW→AA→Prop):Prop:=
 ∀s,St env ρ σ s.heap→Xw (Ae pg w) A c t (PX env σ s Φ) (fun m m=>False) s
theorem Cm.of(x:I7 A env t ρ σ Φ):Cm A c env t ρ σ Φ:=fun s S=>wpAt_of_wpAny (x s S)
def Zal(A:Ab)(c:Code)(env:Af)(rest:List DD)(Φ:CK→AW→AA→Prop):CK→AW→AA→Prop
 |.next,ρ,σ=>Cm A c env (Ff rest env) ρ σ Φ
 |f,ρ,σ=>Φ f ρ σ
theorem Cm.cons{st:DD}(k:Cm A c env (GR st env) ρ σ (Zal A c env rest Φ)):
  Cm A c env (Ff (st::rest) env) ρ σ Φ:=fun s S=>ks_wpAt_execs_cons (Tf (k s S) (fun fl s₁ a5=>HI a5 fun f a1 a0 r m n q=>by
   cases fl<;>cases f<;>first
    |exact r.elim
    |exact Tf (q s₁ m) (fun fl s₂ a6=>HI a6 fun f a2 σ₂ r a3 a4 q=>⟨f,a2,σ₂,r,a3,n.trans a4,q⟩) fun zz zz e=>e
    |exact⟨_,a1,a0,r,m,n,q⟩) fun zz zz e=>e)
theorem XC{f:AB}{fd:Aj}{body:List DD}{names:List Str}{xs:List AV}{n:Nat}{Φ:AV→AA→Prop}(B:Ai)(F:Ak w f fd)(R:Ah A (n+1))
  (a7:fd.body=.stmts body)
  (k:∀L,Cm (A.deeper (BA fd L f)) (.func body (BA fd L f)) (BA fd L f) (Ff body (BA fd L f)) (B4 names xs) σ (backs Φ))
  (a6:∀vs:List Value,vs.length=names.length→HK fd ⟨vs,[]⟩=pure (names.zip vs))(b2:xs.length=names.length)(ok:IU fd names=true):
  Du A (.ref f) xs σ Φ:=fun s vs g r=>by
 obtain⟨c3,a4,b3,b7,a9,hk⟩:=IU.p ok;refine B2 (F.obj B g.base) fun o ho hd hc=>?_;refine EY B.T fun p loose mg mb T=>?_;have a5:vs.length=names.length:=by rw[←r.length,b2]
 have a0:∀x∈fd.scope.names,x.2≠.cell:=fun x hx=>by have:=Fe.mp a4 x hx;simpa using this
 refine ks_codeAny_call_defAt (fd:=fd) (body:=body) (binds:=names.zip vs) R.d ho hd (T.nolimit.keeps g.base) (TP (K:=KK w) (fun a o e=>g.base _ _ (B.K a o e)) F.code) a7 (.of_eq (a6 vs a5)) a0
  (fun x hx=>?_) (fun a3 c2 a1=>?_) b7 a9 hk
 ·have:=Fe.mp b3 x.1 (QA hx).1;simpa using this
 ·have S:St (BA fd s.heap.objs.size f) (B4 names xs) σ a3:=by
   have a2:oc (BA fd s.heap.objs.size f)=[]:=by
    unfold oc;rw[hG.mpr];rfl;intro p hp;simp only[beq_iff_eq];intro e;exact a0 _ (mem_of_lookup e) rfl
   refine⟨g.keeps a1,⟨⟨_,c2,fun x av e zz=>?_⟩,fun c hc=>(by rw[a2]at hc;cases hc),fun x av e q=>?_,(by rw[a2];exact .nil),(by rw[a2];exact fun q=>nomatch q)⟩,g.fresh,fun c hc=>(by rw[a2]at hc;cases hc)⟩
   ·refine AI (UZ r c3 e) fun v e' r'=>?_;exact⟨v,e',r'.mono fun zz zz zz zz q zz zz=>a1 _ _ q⟩
   ·exact absurd rfl (a0 _ (mem_of_lookup q))
  refine Tf (k s.heap.objs.size _ S) (fun fl s₂ b0=>HI b0 fun af c1 σ₂ b6 a8 b4 q=>?_) fun zz zz e=>DL e;refine AI (V1 b6 q) fun av b1 b5=>?_;refine⟨av,σ₂,(by cases fl<;>exact b1),a8.g,.leave (env:=BA fd s.heap.objs.size f) (s₁:={s with heap:=a3,toks:=s.toks+(names.zip vs).length}) a1 (fun a m=>?_) rfl rfl b4,b5⟩;rcases A7.mp m with rfl|m
  ·exact GK _
  ·exfalso;refine AI (BD.mp m) fun p hp zz=>?_;have:=(Dd.mp hp).2;simp only[beq_iff_eq]at this;exact a0 _ (mem_of_lookup this) rfl
structure On(w:AD)(fd:Aj)(cc D:AB)(me:Str):Prop where
 par:∃ar,(fd.params.posonlyargs++fd.params.args).head? =some ar∧ar.arg=me
 code:∃cda ccl cdd vs ccs file tf,fd.code=.ref cda∧(KK w).lookup cda=some ⟨ccl,cdd,.fields vs,ccs⟩∧vs[2]? =some (.str file tf)∧((pg.main.file:Str)==file)=true
 cell:∃cl cld csl,(KK w).lookup cc=some ⟨cl,cld,.cell (some (.ref D)),csl⟩
 cls:∃cdD,clsIn (KK w) D=some cdD
 sup:Cj (KK w) Bh "super"=some none
 boot:Gr "super"=some (.type "super")
 any:Cj (KK w) cStatics "thirdparty.any"=some none
 top:(pg.main.scope.names.lookup ("super":Str)).isSome=false
structure SN(w:AD)(C D:AB)(name:Str)(f2:AB):Prop where
 sub:mroIn (KK w) C (.ref D)=some true
 m:ks_superIn (KK w) C D name=some (some (.ref f2))
 t:typeIn (KK w) (.ref f2)=some (.type "function")
 fn:fnIn (KK w) f2=true
 nm:(name==("__class__":Str))=false
 nC:(KK w).lookup C≠none
theorem V0(B:Ai)(F:Ak w f fd)(X:On w fd cc D self)(Y:SN w C D name f2)
  (b1:ρ self=some (.ref x))(hl:fd.scope.names.lookup self=some .local)(c2:fd.scope.names.lookup ("super":Str)=some .globalImplicit)(d4:fd.scope.names.lookup ("__class__":Str)=some .free)(c6:fd.closure=[(("__class__":Str),cc)])
  (hk:fd.scope.kind=.function)(hg:fd.globals=Bh)(e5:fd.builtins=TH)(I:Dm σ x C dx n fs)
  (k:AC A (BA fd L f) a2 args ρ σ fun xs b2=>Du A (.ref f2) (.ref x::xs) b2 Φ)(hp:CJ args=true)
  (he:A0 (.Call (.Attribute (.Call (.Name "super" p0) [] [] p1) name a7) args [] a2) (BA fd L f)=(do
   let ov ←attributeBase (.Call (.Name "super" p0) [] [] p1) name (BA fd L f) (A0 (.Call (.Name "super" p0) [] [] p1) (BA fd L f))
   Ck a7.atName
   let(q,first) ←CS [ov] (GT ov name pl)
   EK a2 q first (Df a2 (BZ args (BA fd L f))) []))
  (s:AQ)(S:St (BA fd L f) ρ σ s.heap):
  Xw (Ae pg w) A (.func body (BA fd L f)) (A0 (.Call (.Attribute (.Call (.Name "super" p0) [] [] p1) name a7) args [] a2) (BA fd L f)) (PV σ s Φ) (fun _ _=>False) s:=by
 refine AI X.par fun ar c3 a4=>?_;refine EY X.code fun f0 g0 f5 vs d2=>LN d2 fun g3 e9 tf c4=>Bs c4 fun b3 c8 e7 a9=>?_;refine LN X.cell fun cl f3 f4 b4=>?_;refine AX X.cls fun d6 b7=>?_;refine EY B.T fun p loose mg mb T=>?_;have XK:(KK w).In s.heap:=fun a o e=>S.g.base _ _ (B.K a o e);refine B2 (F.obj B S.g.base) fun of e6 e0 g9=>?_;obtain⟨oD,d3,c9⟩:∃oD,s.heap.get? D=some oD∧oD.data=.cls d6:=by
  refine AI (Zp b7) fun o e1 e2=>?_;exact⟨o,XK _ _ e1,e2⟩
 refine AI S.l.ns fun m hn hm=>?_;refine AI (hm self (.ref x) b1 hl) fun e8 a1 b5=>?_;obtain rfl:=VR.inv_ref b5;have hx:=(S.g.own _ _ I.i).2;refine ks_wpAt_MethodCall (pl:=pl) ?_ he;refine ks_wpAt_super_base (env:=BA fd L f) c2 d4 Y.nm rfl e6 e0 c3 b3 (XK _ _ c8) rfl e7 a9 X.top ?_;refine ks_loadName_global hk c2 (g4 (env:=BA fd L f) (show s.heap.Ns (BA fd L f).globals mg by show s.heap.Ns fd.globals mg;rw[hg];exact T.g.keeps S.g.base) (mg_none_of B.K T.g X.sup) (show s.heap.Ns (BA fd L f).builtins mb by show s.heap.Ns fd.builtins mb;rw[e5];exact T.b.keeps S.g.base) ((T.builtins _ (by decide+kernel)).trans X.boot) ⟨rfl,?_⟩);refine wpAny_loadName_free hk d4 (show(BA fd L f).cells.lookup _=some cc by show fd.closure.lookup _=_;rw[c6];rfl) ⟨_,XK _ _ b4,rfl⟩ ?_;rw[a4];refine Lj hk hl hn a1 ?_;refine ks_wpAny_isType_cls d3 c9 ⟨rfl,?_⟩;obtain⟨hh,gg,dd,tt,os⟩:=s;refine ks_wpAny_call_super d3 c9 hx rfl (fun c e=>!nomatch e) (Xx XK Y.sub) (fun h' e kp=>?_);have g1:G σ h':=S.g.keeps kp;have t1:Ar σ ⟨hh,gg,dd,tt,os⟩ σ ⟨h',gg,dd,tt,os⟩:=.keeps kp rfl rfl;have S1:St (BA fd L f) ρ σ h':=S.step (s:=⟨hh,gg,dd,tt,os⟩) (s':=⟨h',gg,dd,tt,os⟩) g1 t1;have a3:(KK w).In h':=fun a o e=>g1.base _ _ (B.K a o e);have a0:=Y.m;cases hc:clsIn (KK w) C with
 |none=>unfold ks_superIn at a0;rw[hc]at a0;cases a0
 |some cd=>
  unfold ks_superIn at a0;rw[hc]at a0;obtain⟨f1,c1,b0⟩:∃of,h'.get? f2=some of∧of.cls=.type "function":=by
   have a5:((KK w).lookup f2).map (·.cls)=some (.type "function"):=Y.t;cases z:(KK w).lookup f2 with
   |none=>rw[z]at a5;cases a5
   |some of=>rw[z]at a5;exact⟨of,a3 _ _ z,An a5⟩
  have e3:x≠C:=fun e=>by
   have:=(S.g.own _ _ I.i).1;rw[e]at this;cases z:(KK w).lookup C with
   |none=>exact Y.nC z
   |some o=>exact Bf (((B.K _ _ z).symm.trans this))
  refine ks_wpAny_getMethod_super e (looks_opaque a3 X.any) (l₀:=cd.mro) (fun A Q E s k q=>AE ((TN a3 hc) A _ E s k (Ad q))) rfl a3 a0 c1 b0 e3 Y.nm ?_;have g2:G σ (h'.push (Lx (.ref f2) (.ref x))):=g1.push _;have t2:Ar σ ⟨hh,gg,dd,tt,os⟩ σ ⟨h'.push (Lx (.ref f2) (.ref x)),gg,dd,tt+1,os⟩:=t1.trans ((Ar.push (s:=⟨h',gg,dd,tt,os⟩) (Lx (.ref f2) (.ref x))).trans (.toks (tt+1)));have S2:St (BA fd L f) ρ σ (h'.push (Lx (.ref f2) (.ref x))):=S.step (s:=⟨hh,gg,dd,tt,os⟩) (s':=⟨h'.push (Lx (.ref f2) (.ref x)),gg,dd,tt+1,os⟩) g2 t2;have hq:(h'.push (Lx (.ref f2) (.ref x))).get? h'.objs.size=some (Lx (.ref f2) (.ref x)):=Bz _ rfl;have nq:=g1.fresh;refine callWith_of (P:=MethP (KK w) h'.objs.size f2 (.ref x)) (by rw[Er hp];rfl) (keeps_M Y.fn) (GX (Er hp) ?_);refine AT (k ⟨h'.push (Lx (.ref f2) (.ref x)),gg,dd,tt+1,os⟩ S2) (fun vs d1 d5=>GM d5 fun xs e4 b6 a8 a6 q=>?_) fun _ _ e=>e;have c5:=(a6.kept nq.1 hq (fun _ _ q=>!nomatch q)).1;refine⟨⟨c5,fun a o e=>a8.base _ _ (B.K a o e)⟩,KW (method_call c5 ?_)⟩;refine Nq (q d1 (.ref x::vs) a8 (.cons (.ref _) b6)) fun rr s' hr=>?_;cases rr with
  |error e=>exact hr.elim
  |ok fl=>
   cases fl with
   |ret v=>
    refine BG hr fun av σ' r' g' t' q=>?_;exact⟨av,σ',r',g',t2.trans (a6.trans t'),q⟩
   |_=>exact hr.elim
theorem gb
  (k:∀s,St (BA fd L f) ρ σ s.heap→Xw (Ae pg w) A (.func body (BA fd L f)) (A0 e (BA fd L f)) (PV σ s (fun n σ'=>Φ .next ρ σ')) (fun n n=>False) s)
  (hi:autoParam (interactive (BA fd L f)=false) aR)(hs:autoParam (Px e none a0.line (BA fd L f)=pure false) aR):
  Cm A (.func body (BA fd L f)) (BA fd L f) (GR (.Expr e a0) (BA fd L f)) ρ σ Φ:=fun s S=>
 ks_wpAt_Expr_any (Tf (k s S) (fun v s' m=>BG m fun av σ' r g t q=>⟨.next,ρ,σ',trivial,S.step g t,t.toF,q⟩) fun n n e=>e) hi hs
theorem Zcd
  (k:∀s,St (BA fd L f) ρ σ s.heap→Xw (Ae pg w) A (.func body (BA fd L f)) (A0 e (BA fd L f)) (PV σ s (fun n σ'=>Φ (.ret n) ρ σ')) (fun zz zz=>False) s):
  Cm A (.func body (BA fd L f)) (BA fd L f) (GR (.Return (some e) a0) (BA fd L f)) ρ σ Φ:=fun s S=>
 ks_wpAt_Return_some (Tf (k s S) (fun v s' m=>BG m fun n σ' r g t q=>⟨.ret n,ρ,σ',r,S.step g t,t.toF,q⟩) fun zz zz e=>e)
theorem Zd0{x y:Str}{b:Bool}{Φ:AV→AA→Prop}(e:(not ((Zdl x y 0 x.length 1).isEmpty))=b)(q:Φ (.bool b) σ):AM A (Dx .In) (.str y) (.str x) σ Φ:=fun s u v g r1 r2=>by
 refine AX (VR.inv_str r1) fun zz m=>?_;subst m;refine AX (VR.inv_str r2) fun zz n=>?_;subst n;exact PyProof.Rows.in_str (by rw[e];exact⟨_,σ,.bool _,g,.refl _ _,q⟩)
theorem Zd3{x:Str}{b:Bool}{Φ:AV→AA→Prop}(e:Txt.isspace x=b)(q:Φ (.bool b) σ):AF A (.builtin "str.isspace") [.str x] σ Φ:=fun s vs g r=>by
 cases r with
 |cons r1 n=>
  refine AX (VR.inv_str r1) fun zz m=>?_;subst m;cases n;exact SC.isspace (by rw[e];exact⟨_,σ,.bool _,g,.refl _ _,q⟩)
theorem Zc8{id:String}(a1:Nr "str" name id)(a3:Nc (.builtin id)=pure (.type "method_descriptor"))
  (k:EV A env o ρ σ fun ov m=>ov=.str x∧AC A env n args ρ m fun ys σ₂=>AF A (.builtin id) (.str x::ys) σ₂ Φ)(hp:autoParam (CJ args=true) aR)
  (he:autoParam (A0 (.Call (.Attribute o name a0) args [] n) env=(do
   let ov ←A0 o env
   Ck a0.atName
   let(f,first) ←CS [ov] (GT ov name pl)
   EK n f first (Df n (BZ args env)) (Hv n (Hw [] env)))) aR):
  EV A env (.Call (.Attribute o name a0) args [] n) ρ σ Φ:=
 Sq PySem.F.plainAttrs_str a1 a3 (k.mono fun ov m a2=>AL a2 fun e1 q=>by
  subst e1;refine⟨fun s u g r=>?_,q⟩;refine AX (VR.inv_str r) fun zz a4=>?_;subst a4;exact⟨typeIs_str _ _ _,fun a e=>!nomatch e⟩) hp he
end
abbrev J5(xs:Array Nat):Prop:=xs.toList.Pairwise (· <·)
theorem J5.lt(h:J5 xs){i j a b:Nat}(m:i<j)(n:xs[i]? =some a)(hb:xs[j]? =some b):a<b:=by
 rw[←Dp]at n hb;refine AX (BX.mp n) fun h1 e1=>?_;refine AX (BX.mp hb) fun h2 e2=>?_;have:=QK.mp h i j h1 h2 m;rw[e1,e2]at this;exact this
theorem og(h:J5 xs):∀(m lo n:Nat),n≤xs.size→n≤lo+m→lo≤n→(∀i a,i<lo→xs[i]? =some a→a<j)→(∀i a,n≤i→xs[i]? =some a→j≤a)→
  Kb xs j m lo n≤xs.size∧(∀i a,i<Kb xs j m lo n→xs[i]? =some a→a<j)∧(∀i a,Kb xs j m lo n≤i→xs[i]? =some a→j≤a):=by
 intro m
 induction m with
 |zero=>
  intro lo n h1 h2 h3 l u;have:lo=n:=by exact Ej h3 h2
  subst this;exact⟨h1,l,u⟩
 |succ m a2=>
  intro lo n h1 h2 h3 l u;change(if lo<n then if xs.getD ((lo+n) / 2) j<j then Kb xs j m ((lo+n) / 2+1) n else Kb xs j m lo ((lo+n) / 2)else lo)≤_∧(∀i a,i<(if lo<n then if xs.getD ((lo+n) / 2) j<j then Kb xs j m ((lo+n) / 2+1) n else Kb xs j m lo ((lo+n) / 2)else lo)→_)∧∀i a,(if lo<n then if xs.getD ((lo+n) / 2) j<j then Kb xs j m ((lo+n) / 2+1) n else Kb xs j m lo ((lo+n) / 2)else lo)≤i→_;split
  ·rename_i a1;have hm:(lo+n) / 2<xs.size:=by exact zw h1 a1
   have hx:xs[(lo+n) / 2]? =some xs[(lo+n) / 2]:=KZ hm;have hd:xs.getD ((lo+n) / 2) j=xs[(lo+n) / 2]:=by simp[Array.getD,hm]
   rw[hd];split
   ·rename_i q;refine a2 _ n h1 (!tR h2) (!xR a1) (fun i a a0 e=>?_) u;by_cases e':i=(lo+n) / 2
    ·subst e';obtain rfl:=An ((hx.symm.trans e));exact q
    ·exact ik (h.lt (!lq a0 e') e hx) q
   ·rename_i q;refine a2 lo _ (!Ct hm) (!qR h2) (!pc a1) l (fun i a a0 e=>?_);by_cases e':i=(lo+n) / 2
    ·subst e';obtain rfl:=An ((hx.symm.trans e));exact EM q
    ·have:=h.lt (!sF a0 e') hx e;exact AK (EM q) (Ct this)
  ·have:lo=n:=by exact Am qE h3 (by assumption)
   subst this;exact⟨h1,l,u⟩
theorem UV{xs:Array Nat}{j:Nat}(h:J5 xs):Ek xs j≤xs.size∧(∀i a,i<Ek xs j→xs[i]? =some a→a<j)∧(∀i a,Ek xs j≤i→xs[i]? =some a→j≤a):=
 og h _ _ _ (A9 _) (!A5 Za8) (Bc _) (fun i a m n=>absurd m (Li _)) fun i a m e=>absurd (Nn.mp e).1 (!Nat.not_lt.2 m)
theorem zL(h:J5 xs)(hj:xs[Ek xs j]? ≠some j):J5 (SetTable.insertAt xs (Ek xs j) j):=by
 refine BN (UV (j:=j) h) fun h1 h2 h3=>?_;have hn:∀a∈xs.toList.drop (Ek xs j),j<a:=fun a n=>by
  refine AX (Zdm.mp n) fun i m=>?_;rw[List.getElem?_drop,Dp]at m;have:=h3 _ a (Nat.le_add_right _ _) m;by_cases e:a=j
  ·subst e;exfalso;cases i with
   |zero=>exact hj m
   |succ i=>
    have hb:Ek xs a<xs.size:=by have:=(Nn.mp m).1;exact BS vM this
    have hx:xs[Ek xs a]? =some xs[Ek xs a]:=KZ hb;have:=h3 _ _ (A9 _) hx;have:=h.lt (!Am kc) hx m;exact Cb pY hb (by assumption) this
  ·exact Am mD this e
 have hp:∀a∈xs.toList.take (Ek xs j),a<j:=fun a n=>by
  refine AX (Zdm.mp n) fun i m=>?_;rw[List.getElem?_take]at m;split at m
  ·rw[Dp]at m;exact h2 _ a (by assumption) m
  ·exact Au m
 show il _ _;rw[SetTable.toList_insertAt];refine im.mpr ⟨h.sublist (List.take_sublist _ _),Jm.mpr ⟨hn,h.sublist (List.drop_sublist _ _)⟩,fun a n b hb=>?_⟩;rcases A7.mp hb with rfl|hb
 ·exact hp a n
 ·exact ik (hp a n) (hn b hb)
theorem wE(n:Nat):J5 (Array.range n):=by
 show il _ _;rw[Array.toList_range];exact io
structure Fv(bt:Bool)(t:SetTable):Prop where
 asc:J5 t.place
 dum:t.dummies=#[]
 led:bt=true∨t.led=true
theorem zq(hd:t.dummies=#[]):∀(m:Nat)(p:SetTable.Probe),p.dummy=none→∀{j d},Xy t f h m p=some (.empty j d)→d=none∧t.slot j=.empty:=by
 intro m
 induction m with
 |zero=>
  intro p _ j d e;exact Au e
 |succ m n=>
  intro p hp j d e;have a1:(t.advance p).dummy=none:=by
   unfold SetTable.advance;split
   ·exact hp
   ·exact hp
  change(match t.slot p.j with|.empty=>some (SetTable.Met.empty p.j p.dummy)|.dummy=>Xy t f h m (t.advance {p with dummy:=some p.j})|.live i=>if f i==h then some (Zdn p.j i (t.advance p))else Xy t f h m (t.advance p))=_ at e
  cases q:t.slot p.j with
  |empty=>
   rw[q]at e;refine AL (Zeh (An e)) fun a2 a0=>?_;subst a2;subst a0;exact⟨hp,q⟩
  |dummy=>
   exfalso;unfold SetTable.slot at q;rw[hd]at q;change(if(t.place[Ek t.place p.j]? ==some p.j)=true then SetTable.Slot.live (Ek t.place p.j)else SetTable.Slot.empty)=SetTable.Slot.dummy at q;split at q
   ·exact nomatch q
   ·exact nomatch q
  |live i=>
   rw[q]at e;change(if f i==h then some (Zdn p.j i (t.advance p))else Xy t f h m (t.advance p))=_ at e;split at e
   ·exact(nomatch (An e))
   ·exact n _ a1 e
set_option tactic.hygienic true in
theorem jt{t:SetTable}(hd:t.dummies=#[])(e:t.freeSlot h=some (j,b)):b=false∧t.slot j=.empty:=by
 unfold SetTable.freeSlot at e;split at e
 ·rename_i n d q;refine AL (zq hd _ _ rfl q) fun m k=>?_;subst m;obtain⟨rfl,rfl⟩:=NX (An e);exact⟨rfl,k⟩
 ·exact Au e
theorem mz{t:SetTable}(e:t.slot j=.empty):t.place[Ek t.place j]? ≠some j:=by
 intro q;unfold SetTable.slot at e;simp only[q,beq_self_eq_true,if_true]at e;exact nomatch e
theorem Fv.standIn{bt:Bool}{t:SetTable}(T:Fv bt t)(n:Nat):Fv bt (t.standIn n):=⟨wE n,rfl,T.led⟩
set_option tactic.hygienic true in
theorem Fv.new{bt:Bool}{t:SetTable}(T:Fv bt t)(es:Array (Int×Value))(h:Int)(x:Value):Fv bt (layNew t es h x).2.1:=by
 unfold layNew;split
 ·rename_i j b e;refine AL (jt T.dum e) fun _ q=>?_;show Fv bt ((t.put j).1.orStandIn _);unfold SetTable.orStandIn;have T':Fv bt (t.put j).1:=⟨zL T.asc (mz q),by unfold SetTable.put;simp[T.dum,SetTable.has],T.led⟩;split
  ·exact T'
  ·exact T'.standIn _
 ·exact T.standIn _
theorem sG(f:Nat→Option Nat):∀{l:List Nat},l.Pairwise (· <·)→((l.filterMap fun j=>(f j).map fun x=>(j,x)).map (·.1)).Pairwise (· <·):=fun{l} h=>by
 have:((l.filterMap fun j=>(f j).map fun x=>(j,x)).map (·.1)).Sublist l:=by
  clear h
  induction l with
  |nil=>exact .slnil
  |cons a l m=>
   rw[Np];cases f a with
   |none=>exact m.cons a
   |some b=>exact m.cons₂ a
 exact h.sublist this
set_option tactic.hygienic true in
theorem Fv.relay{bt:Bool}{t:SetTable}(T:Fv bt t)(es:Array (Int×Value))(n:Nat):Fv bt (Tg t es n).2.1:=by
 unfold Tg;split
 ·rename_i t' m e;dsimp only;split
  ·unfold SetTable.relaid SetTable.laid at e;cases hq:SetTable.layClean (SetTable.sizeAbove n-1) (es.map (·.1))with
   |none=>rw[hq]at e;cases e
   |some owner=>
    rw[hq]at e;cases e;refine⟨?_,rfl,T.led⟩;exact sG _ io
  ·exact T.standIn _
 ·exact T.standIn _
section
variable {A:Ab} {E:Value→AQ→Prop} {s:AQ}
def Ol:Value→Int
 |.int i _=>i
 |_=>0
abbrev bt(w:AD):Bool:=w.params.followText "set-order"
structure Gg(w:AD)(es:Array (Int×Value))(t:SetTable)(S:Int→Bool)(n:Nat):Prop where
 el:ElemsOf (E8 pg w) es.toList
 mem:∀k,S k=true↔∃e∈es.toList,(E8 pg w).is k e.2=true
 nd:(es.toList.map fun e=>Ol e.2).Nodup
 sz:es.size=n
 lt:n<KT
 fits:t.fits es.size=true
 tab:Fv (bt w) t
def Ul(w:AD)(h:A3)(a:AB)(S:Int→Bool)(n:Nat):Prop:=
 ∃es ep t,h.get? a=some {cls:=.type "set",dict:=none,data:=.set es ep t,slots:=#[]}∧Gg w es t S n
theorem Gg.perm(D:Gg w es t S n)(p:a1.toList.Perm es.toList)(f:t'.fits a1.size=true)(T:Fv (bt w) t'):Gg w a1 t' S n:=by
 refine⟨D.el.perm p,fun k=>(D.mem k).trans ⟨fun a0=>AI a0 fun e he q=>⟨e,p.mem_iff.mpr he,q⟩,fun m=>AI m fun e he q=>⟨e,p.mem_iff.mp he,q⟩⟩,(p.map _).nodup_iff.mpr D.nd,?_,D.lt,f,T⟩;rw[←Gs,p.length_eq,Gs];exact D.sz
theorem Zk
  (ho:s.heap.get? a=some {cls:=.type "set",dict:=none,data:=.set es ep t,slots:=#[]})(hf:n.fits m.size=true)(hz:m.size<KT)
  (h:∀h',E9 a s.heap h'→h'.get? a=some {cls:=.type "set",dict:=none,data:=.set m (ep+1) n,slots:=#[]}→Q Unit.unit {s with heap:=h'}):AR (Ae pg w) A (storeSet a m n) Q E s:=by
 refine wpAny_storeSet_of ho rfl ?_ ?_
 ·refine h _ (Ei s.heap a (Obj.putSet m n)) ?_;have:=GS (Obj.putSet m n) ho (by rw[putSet_of m n rfl];rfl);rw[putSet_of m n rfl]at this;exact this
 ·exact ip hz
theorem Gg.push(D:Gg w es t S n)(hk:S k=false)(hr:n+1<KT)(p:a1.toList.Perm (es.toList++[((E8 pg w).hash k,Nt k tk)]))
  (f:t1.fits a1.size=true)(T:Fv (bt w) t1):Gg w a1 t1 (fun k'=>S k'||decide (k'=k)) (n+1):=by
 refine⟨(D.el.push (Xz _ _ _ tk) rfl).perm p,mem_push_iff (Xz pg w k tk) D.mem p,(p.map _).nodup_iff.mpr ?_,?_,hr,f,T⟩
 ·rw[Cr,List.map_singleton];refine Nm.mpr ⟨D.nd,by simp,fun x hx y hy e=>?_⟩;rw[Aq]at hy;have a2:x=k:=e.trans hy;refine AI (BD.mp hx) fun e he q=>?_;have:S k=true:=(D.mem k).mpr ⟨e,he,by
   refine AL (D.el e he) fun m zz=>AI m fun k' a0 zz=>?_;refine AX (Pu a0) fun u hu=>?_;rw[hu]at q;have:k'=k:=Eq.trans q a2;subst this;exact a0⟩
  exact(nomatch ((hk.symm.trans this)))
 ·rw[←Gs,p.length_eq,BJ,Gs,D.sz];rfl
theorem xW(hS:Ul w s.heap a S n)(hr:n+1<KT)
  (h:∀h',E9 a s.heap h'→Ul w h' a (fun k'=>S k'||decide (k'=k)) (if S k then n else n+1)→Q (not (S k)) {s with heap:=h'}):
  AR (Ae pg w) A (setAddHashed a (.int k tk) ((E8 pg w).hash k)) Q E s:=by
 refine Kv hS fun es ep t ho D=>?_;have hb:es.size<KT:=by rw[D.sz];exact D.lt
 unfold setAddHashed setAddHashedIn;refine CF (AE (QL ho rfl D.fits ?_));dsimp only;rw[byScan_of (knd:=E8 pg w) rfl hb D.el];simp only[↓reduceIte];unfold setAddByScan;refine AE (AE (Lv (AE (wpAny_setScan_of (Xz pg w k tk) ho rfl D.fits D.el ?_))));cases hf:List.findIdx? (fun e=>(E8 pg w).is k e.2) es.toList with
 |some j=>
  dsimp only;refine AI (List.findIdx?_eq_some_iff_getElem.mp hf) fun hj hp zz=>?_;have hk:S k=true:=(D.mem k).mpr ⟨es.toList[j],TW hj,hp⟩;refine Ad (Ad ?_);have:=h s.heap (Heap.SameBut.refl a s.heap) ⟨es,ep,t,ho,D.el,fun k'=>by
   rw[Bool.or_eq_true,decide_eq_true_eq,←D.mem k'];exact⟨fun q=>q.elim id fun e=>e▸hk,.inl⟩,D.nd,by rw[hk];exact D.sz,by rw[hk];exact D.lt,D.fits,D.tab⟩
  rw[hk]at this;exact this
 |none=>
  dsimp only;have hk:S k=false:=by
   cases q:S k with
   |false=>rfl
   |true=>refine AI ((D.mem k).mp q) fun e he hp=>?_;have:=List.findIdx?_eq_none_iff.mp hf e he;exact(nomatch ((hp.symm.trans this)))
  rw[hk]at h;have gw:∀(b:Bool){s₁:AQ}{Q':Unit→AQ→Prop},Q' Unit.unit s₁→AR (Ae pg w) A (match b with|true=>rule "set.scan.the-table-gave-way"|false=>pure Unit.unit) Q' E s₁:=
   fun b s₁ Q' q=>by cases b<;>first|exact Ad q|exact Lv q
  have p1:=layNew_perm t es ((E8 pg w).hash k) (.int k tk);have f1:=layNew_fits t es ((E8 pg w).hash k) (.int k tk);have t1:=D.tab.new es ((E8 pg w).hash k) (.int k tk);generalize hL:layNew t es ((E8 pg w).hash k) (.int k tk)=N at p1 f1 t1 ⊢;obtain⟨m,a3,a0,a9⟩:=N;dsimp only at p1 f1 t1 ⊢;rw[QF]at p1;refine AE (gw _ ?_);have D1:=D.push hk hr p1 f1 t1;have a1:∀{g:Bool→Sem Unit}(hg:∀(b:Bool)(s₁:AQ)(Q':Unit→AQ→Prop),Q' Unit.unit s₁→AR (Ae pg w) A (g b) Q' E s₁){t2:SetTable},Gg w m t2 (fun k'=>S k'||decide (k'=k)) (n+1)→AR (Ae pg w) A (do
    storeSet a m t2
    if(not (a0)&&t2.tooFull)=true then do
      g (Tg t2 m (QM m.size)).2.2
      storeSet a (Tg t2 m (QM m.size)).1 (Tg t2 m (QM m.size)).2.1
      pure (some true)
     else pure (some true)) (fun r s'=>r=some true∧Q true s') E s:=fun{g} hg {t2} D2=>by
   refine AE (Zk ho D2.fits (by rw[D2.sz];exact D2.lt) fun h1 a2 a5=>?_);split
   ·refine AE (hg _ _ _ ?_);have D3:=D2.perm (relayAll_perm t2 m (QM m.size)) (relayAll_fits t2 m (QM m.size)) (D2.tab.relay m (QM m.size));refine AE (Zk a5 D3.fits (by rw[D3.sz];exact D3.lt) fun h2 a7 a8=>?_);exact Ad ⟨rfl,h h2 (a2.trans a7) ⟨_,_,_,a8,D3⟩⟩
   ·exact Ad ⟨rfl,h h1 a2 ⟨_,_,_,a5,D2⟩⟩
  have hg:∀(b:Bool)(s₁:AQ)(Q':Unit→AQ→Prop),Q' Unit.unit s₁→AR (Ae pg w) A (match b with|true=>rule "set.scan.the-table-gave-way"|false=>pure Unit.unit) Q' E s₁:=fun b s₁ Q' q=>gw b q
  split
  ·refine AE ?_;rw[hashByValue_scannable 8 (x:=.int k tk) rfl];refine Ad ?_;refine AT (a1 (g:=fun b=>match b with|true=>rule "set.scan.the-table-gave-way"|false=>pure Unit.unit) hg (t2:=a3) D1) (fun r s' a6=>AL a6 fun e q=>by subst e;exact Ad q) fun zz zz e=>e
  ·refine AE (Ad ?_);simp only[↓reduceIte];refine AT (a1 (g:=fun b=>match b with|true=>rule "set.scan.the-table-gave-way"|false=>pure Unit.unit) hg (t2:=a3) D1) (fun r s' a4=>AL a4 fun e q=>by subst e;exact Ad q) fun zz zz e=>e
def HY(w:AD)(h:A3)(a:AB)(ns:List Int):Prop:=∃m,m≤ns.length∧Ul w h a (fun k=>ns.any (· ==k)) m
theorem HY.at{h h':A3}{a:AB}{ns:List Int}(x:HY w h a ns)(k:∀o,h.get? a=some o→h'.get? a=some o):HY w h' a ns:=by
 refine AX x fun m a0=>AL a0 fun hm n=>Kv n fun es ep t ho D=>?_;exact⟨m,hm,es,ep,t,k _ ho,D⟩
theorem yz(r:Ji vs ns)(i:Nat)(v:Value)(h:vs[i]? =some v):∃t k,v=.int k t∧ns[i]? =some k:=by
 induction r generalizing i with
 |nil=>simp at h
 |cons n t hr m=>
  cases i with
  |zero=>simp at h;exact⟨t,n,h.symm,rfl⟩
  |succ i=>exact m i (by simpa using h)
theorem mf{fp wr:List AB}{G:Array Gp→Array Gp→Prop}{St:Nat→AQ→Prop}
  (W:WalksS pg w A.in1 I fp wr G n P St)(S:AB)(b1:S∉fp)(ns:List Int)(hn:ns.length=n)(a6:∀i v,P i v→∃t k,v=.int k t∧ns[i]? =some k)(hb:n+1<KT):
  ∀(k i:Nat)(s:AQ),n-i=k→i≤n→St i s→HY w s.heap S (ns.take i)→(∀s',Moved (S::wr) G s s'→HY w s'.heap S ns→R (.ok (.ret .none)) s')→
   FA (Ae pg w) A (.builtin "set.update.loop" ⟨[.ref S,.ref I],[]⟩) R s:=by
 have b0:S∉wr:=fun h=>b1 (W.sub _ h);have a1:∀b∈wr,b∈S::wr:=fun b hb=>TT _ hb;intro k
 induction k with
 |zero=>
  intro i s hk hi a3 hS hR;have b3:i=n:=by exact Zar hk hi
  subst b3;rw[←hn,iq]at hS;refine Nu Zdo ?_;rw[Th ir _];show AR _ A.in1 (Jj (.ref I)>>=_) _ _ s;refine AE (W.done s _ _ a3 fun s' hm=>?_);show AR _ A.in1 (ret Lu) _ _ s';exact Ad (hR s' (hm.mono a1) (hS.at fun o e=>hm.heap S o b0 e))
 |succ k ih=>
  intro i s hk hi a3 hS hR;have a2:i<n:=by exact tM hk
  refine Nu Zdo ?_;rw[Th ir _];show AR _ A.in1 (Jj (.ref I)>>=_) _ _ s;refine AE (W.item i s _ _ a2 a3 fun v s' hP a9 hm=>?_);refine Cp (a6 i v hP) fun t z a7 hz=>?_;subst a7;refine AI (hS.at (h':=s'.heap) fun o e=>hm.heap S o b0 e) fun m a0 b4=>?_;rw[Nv]at a0;show AR _ A.in1 (CS [Nt z t] (setAdd S (.int z t))>>=_) _ _ s';refine AE (CF ?_);unfold setAdd;refine CF ?_;refine AE ((E8 pg w).pyHash (k:=z) (Xz _ _ _ _) ?_);refine xW (s:={s' with toks:=s'.toks+1}) b4 (!om hb a2 a0) fun h' a4 b2=>?_;have b5:HY w h' S (ns.take (i+1)):=by
   have e:ns.take (i+1)=ns.take i++[z]:=by rw[Gy,hz];rfl
   rw[e];have ef:(fun k'=>((ns.take i++[z]).any (· ==k')))=fun k'=>((ns.take i).any (· ==k'))||decide (k'=z):=by
    funext k';rw[List.any_append];by_cases q:k'=z
    ·subst q;simp
    ·have:(z==k')=false:=beq_eq_false_iff_ne.mpr (Ne.symm q);simp[this,q]
   unfold HY;rw[ef];exact⟨_,by simp only[BJ,Nv,C5];split<;>(first|exact wo a0|exact mT a0),b2⟩
  refine Ad ⟨X0 ir _,ih (i+1) _ (!wm hk) a2 (W.frame _ s' _ _ a9 (Gv _) fun b hb o e=>?_) b5 fun s'' a8 a5=>?_⟩
  ·rw[a4.2 b (fun h:b=S=>b1 (by rw[←h];exact hb))];exact e
  ·refine hR s'' (Moved.trans W.gtrans ((hm.mono a1).then_heap (Gv _) fun b o hb e=>?_) a8) a5;rw[a4.2 b (fun h:b=S=>hb (by rw[h];exact Dg))];exact e
theorem xq(n:bt w=true∨m=true)(e:h.get? a=some {cls:=.type "set",dict:=none,data:=.set #[] 0 (.fresh 0 0 m)}):HY w h a []:=
 ⟨0,A9 _,#[],0,_,e,fun e he=>by simp at he,fun k=>by simp,by exact⋯,rfl,by decide,by rfl,⟨by show il _ _;simp[SetTable.fresh],rfl,n⟩⟩
theorem v7(a:Value)
  (h:Q₁ (.ref s.heap.objs.size) {s with heap:=s.heap.push {cls:=.type "set",dict:=none,data:=.set #[] 0 (.fresh 0 0 (not (bt w)))}}):
  FA (Ae pg w) A (.call (.builtin "set.__new__") ⟨[.type "set",a],[]⟩) (wants Q₁ E) s:=by
 refine Ti ?_;show AR _ A.in1 (do checkBuiltinCall "set.__new__" ⟨[.type "set",a],[]⟩;again (.builtin "set.__new__" ⟨[.type "set",a],[]⟩)) _ _ s
 refine AE (Lo (PySem.F.newCall_set_1 a) (Ad ⟨X0 Zdp _,Nu PySem.F.entry_set_new ?_⟩));rw[Th Zdp _];unfold Builtin.«set.__new__» Builtin.Frozenset.newClass;have m:=sub_set_self;obtain⟨hp,g,d,tk,os⟩:=s;dsimp only
 wp_walk
 refine KV (Ad ?_);dsimp only;simp only[newObj];refine AE (wpAny_alloc (Ad ?_));exact Ad h
def Wa(A:Ab)(E:Value→AQ→Prop)(s:AQ)(l:AB)(items:Array Value)(ns:List Int)(Q:Value→AQ→Prop):Prop:=∀(n:A.handled=none)(hl:s.heap.IsList l items)(m:Ji items.toList ns)(hb:ns.length+1<KT)(h:∀(h':A3)(tk:Nat),HY w h' s.heap.objs.size ns→(∀b o,s.heap.get? b=some o→h'.get? b=some o)→Q (.ref s.heap.objs.size) {s with heap:=h',toks:=tk}),AR (Ae pg w) A (call (.type "set") [.ref l]) Q E s
def cp:((Ab×(Value→AQ→Prop))×(AQ×AB))×((Array Value×List Int)×(Value→AQ→Prop))→Prop:=fun t=>Wa t.1.1.1 t.1.1.2 t.1.2.1 t.1.2.2 t.2.1.1 t.2.1.2 t.2.2
def Kw:=zE cp ((({},(fun _ _=>True)),({},0)),((#[],[]),(fun _ _=>True)))
def ZR:=Kw.1.1.1
def Uo:=Kw.1.1.2
def DH:=Kw.1.2.1
def H3:=Kw.1.2.2
def LP:=Kw.2.1.1
def N4:=Kw.2.1.2
def sq:=Kw.2.2
theorem s9:Wa ZR Uo DH H3 LP N4 sq:=fun hh hl hi hb h=>by
 have a0:LP.size=N4.length:=by rw[←Gs];exact IntsAre.length hi
 refine Bx Ly.mro fun c tl d6=>?_;have c9:=Ly.made;have e1:=Ly.sub;refine KW (Ti ?_);show AR _ _ (callAny (.type "set") _) _ _ _;refine Ad ⟨X8 _ (by decide+kernel),Nu PySem.F.entry_type_call ?_⟩;rw[Around.under_plain (weight_type_call_type "set" [.ref H3] []) rfl];have h1:=Ly.notType;have h2:=Ly.canCreate;have e9:=PySem.F.typeCall_set_1 (.ref H3)
 repeat (any_goals (first|assumption|wp_step))
 refine Nq (v7 (.ref H3) (E:=Uo) (Q₁:=fun c3 s₁=>c3=.ref DH.heap.objs.size∧s₁={DH with heap:=DH.heap.push {cls:=.type "set",dict:=none,data:=.set #[] 0 (.fresh 0 0 (not (bt w)))}}) ⟨rfl,rfl⟩) fun r s₁ hr=>?_;cases r with
 |error e=>exact hr
 |ok fl=>
  cases fl with
  |ret c3=>
   refine AL hr fun c1 b4=>?_;subst c1;subst b4;generalize e3:(not (bt w))=led at*;have a1:bt w=true∨led=true:=by cases e8:bt w<;>simp_all
   have hS:(DH.heap.push {cls:=.type "set",dict:=none,data:=.set #[] 0 (.fresh 0 0 led)}).get? DH.heap.objs.size=some {cls:=.type "set",dict:=none,data:=.set #[] 0 (.fresh 0 0 led)}:=Bz _ rfl;have hT:iu {DH with heap:=DH.heap.push {cls:=.type "set",dict:=none,data:=.set #[] 0 (.fresh 0 0 led)}} (.ref DH.heap.objs.size) "set":=⟨_,hS,rfl⟩;have e6:=Ly.init.lookup;have e5:=Ly.init.bind (.ref DH.heap.objs.size)
   repeat (any_goals (first|assumption|wp_step))
   refine Nq (iw (R:=wants (fun r s₂=>r=.none∧∃h' tk,s₂={DH with heap:=h',toks:=tk}∧HY w h' DH.heap.objs.size N4∧
     (∀b o,DH.heap.get? b=some o→h'.get? b=some o)) Uo) Ly.init.plain PySem.F.entry_set_init (check_set_init_1 hT ?_)) fun b2 s₂ m=>?_
   ·refine AX hl fun ol a6=>BN a6 fun b0 a9 a5=>AX a5 fun nl b6=>?_;obtain⟨e2,a3,c4,n⟩:=ol;simp only at a9 b6;subst a9;subst b6;have b5:(DH.heap.push {cls:=.type "set",dict:=none,data:=.set #[] 0 (.fresh 0 0 led)}).get? H3=some {cls:=.type "list",dict:=a3,data:=.seq LP nl,slots:=n}:=BC _ b0;have e4:=PySem.F.sub_list_set;have e0:=PySem.F.sub_list_frozenset;have e7:(Ef "list"==Ef "dict")=false:=by decide
    have b1:(DH.heap.push {cls:=.type "set",dict:=none,data:=.set #[] 0 (.fresh 0 0 led)}).IsList H3 LP:=⟨_,b5,rfl,nl,rfl⟩;unfold Builtin.«set.__init__» noKeywords Builtin.Frozenset.updateFrom;generalize d2:Ng=PI
    wp_walk
    subst d2;refine wpAny_pyIter_list b1 ?_;refine AE (wpAny_runValue ?_);have a8:H3<DH.heap.objs.size:=DJ b0;have d1:ZR.in1.in1.in1.handled=none:=by simp[hh]
    have c2:H3≠(DH.heap.push {cls:=.type "set",dict:=none,data:=.set #[] 0 (.fresh 0 0 led)}).objs.size:=by
     rw[Jk];exact Bm (Hx a8)
    have d4:DH.heap.objs.size∉[(DH.heap.push {cls:=.type "set",dict:=none,data:=.set #[] 0 (.fresh 0 0 led)}).objs.size,H3]:=by
     rw[Jk];simp only[A7,HR,or_false,not_or];exact⟨Bm (Nk _),HP a8⟩
    have b3:∀(i:Nat)(v:Value),LP[i]? =some v→∃t k,v=.int k t∧N4[i]? =some k:=fun i v hv=>yz hi i v (by rw[Dp];exact hv);refine mf ((Walks.list d1 _ H3 c2 LP).toS) DH.heap.objs.size d4 N4 a0.symm b3 (!AK (Zdq (Ac a0) 2) hb) (LP.size-0) 0 _ (!Ej (A9 _) (A9 _)) (Bc _)
     ⟨⟨_,Bz _ rfl,rfl,rfl⟩,(b1.push _)⟩ (xq a1 (BC _ hS)) fun s' hm a4=>?_
    obtain⟨h',g',d',c6,d5⟩:=s';have eg:g'=DH.gens:=hm.gens;have ed:d'=DH.drawn:=hm.drawn;have eo:d5=DH.os:=hm.os;subst eg;subst ed;subst eo;show AR _ _ _ _ _ _;refine Ad ?_;show AR _ _ (ret Lu) _ _ _;refine Ad ⟨rfl,h',c6,rfl,a4,fun b o e=>?_⟩;have hb:=DJ e;have c5:b≠DH.heap.objs.size:=Bm hb;have d3:b≠(DH.heap.push {cls:=.type "set",dict:=none,data:=.set #[] 0 (.fresh 0 0 led)}).objs.size:=by
     rw[Jk];exact Bm (Hx hb)
    exact hm.heap b o (by simp only[A7,HR,or_false,not_or];exact⟨c5,d3⟩) (BC _ (BC _ e))
   ·cases b2 with
    |error e=>exact m
    |ok a2=>
     cases a2 with
     |ret r=>
      refine MY m fun a7 h' tk b7 a4 c8=>?_;subst a7;subst b7
      repeat (any_goals (first|assumption|wp_step))
      exact h _ _ a4 c8
     |_=>exact m.elim
  |_=>exact hr.elim
theorem jY{A E s l items ns Q}:Wa A E s l items ns Q:=@zF _ cp _ @s9 (((A,E),(s,l)),((items,ns),Q))
theorem dB:Manifest.owners.lookup (String.ofList ['r','o','t','a','r','e','t','i','_','t','e','s'].reverse)=some Manifest.sig_set_iterator:=∅
theorem MT:Nr "set_iterator" "__next__" "set_iterator.__next__":=
 .of (owner:="set_iterator") (n:="__next__") (by rw[YA,YB];kernel_rfl) (by decide+kernel) (by decide+kernel) (by decide+kernel)
  (by first|exact .inl (by decide+kernel)|exact .inr (by decide+kernel)) (by rw[YC];kernel_rfl)
theorem cN:entryFor table "set_iterator.__next__"=some Builtin.«set_iterator.__next__»:=entryFor_of_tree ∅
theorem fO(a:Value):QN "set_iterator.__next__" ⟨[a],[]⟩:=by
 unfold QN;rw[signature?_of (id:="set_iterator.__next__") (n:=['_','_','t','x','e','n','_','_']) (o:=['r','o','t','a','r','e','t','i','_','t','e','s']) ∅ dB];kernel_rfl
theorem vi:entryFor table "set.__iter__"=some Builtin.«frozenset.__iter__»:=
 entryFor_alias (id':="frozenset.__iter__") ∅ (by first|rfl|decide+kernel|(unfold String.splitOn;simp+decide [Zdr])) (by decide+kernel) ∅
theorem fb:Nr "set_iterator" "__iter__" "set_iterator.__iter__":=
 .of (owner:="set_iterator") (n:="__iter__") (by rw[YA,YB];kernel_rfl) (by decide+kernel) (by decide+kernel) (by decide+kernel)
  (by first|exact .inl (by decide+kernel)|exact .inr (by decide+kernel)) (by rw[YC];kernel_rfl)
theorem zu(a:Value):QN "set_iterator.__iter__" ⟨[a],[]⟩:=by
 unfold QN;rw[signature?_of (id:="set_iterator.__iter__") (n:=['_','_','r','e','t','i','_','_']) (o:=['r','o','t','a','r','e','t','i','_','t','e','s']) ∅ dB];kernel_rfl
theorem mE:entryFor table "set_iterator.__iter__"=some Builtin.«dict_keyiterator.__iter__»:=
 entryFor_alias (id':="dict_keyiterator.__iter__") ∅ (by first|rfl|decide+kernel|(unfold String.splitOn;simp+decide [Zdr])) (by decide+kernel) ∅
theorem aU{l:List α}:∀{i:Nat}(h:i<l.length),(l[i]::l.eraseIdx i).Perm l:=by
 induction l with
 |nil=>intro i h;exact absurd h (Li _)
 |cons x l m=>
  intro i h;cases i with
  |zero=>exact .refl _
  |succ i=>exact(ix _ _ _).trans ((m (XW h)).cons x)
theorem xi(hn:0<n)(h:∀i d,i<n→Q i {s with drawn:=d}):AR (Ae pg w) A (choose m n) Q E s:=fun Γ p zz=>by
 show Sem.wp _ Γ (.choose m n .pure) _ _ p s;rw[Sem.wp_choose];exact⟨HP hn,by rw[Sem.wp_pure];exact h _ _ (Nat.mod_lt _ hn)⟩
theorem vk(n:Nat):∀(xs:List α){s:AQ}{Q:List α→AQ→Prop},xs.length≤n→(∀ys d,ys.Perm xs→Q ys {s with drawn:=d})→AR (Ae pg w) A (drawOrder n xs) Q E s:=by
 induction n with
 |zero=>
  intro xs s Q hl h;cases Lh (Nat.le_zero.mp hl);exact Ad (h [] s.drawn .nil)
 |succ n ih=>
  intro xs s Q hl h;cases xs with
  |nil=>exact Ad (h [] s.drawn .nil)
  |cons x xs=>
   change AR _ _ (choose .order (x::xs).length>>=fun i=>match(x::xs)[i]? with|some y=>drawOrder n ((x::xs).eraseIdx i)>>=fun l=>pure (y::l)|none=>unsupported "internal:drawOrder") _ _ _
   refine AE (xi (!Cu _) fun i d m=>?_);rw[Dq m];refine AE (ih ((x::xs).eraseIdx i) (by rw[Zds,if_pos m];exact Nat.le_of_succ_le_succ hl) fun ys d' hp=>Ad (h _ d' ?_));exact(hp.cons _).trans (aU m)
theorem qU(f:Nat→Nat)(n:Nat):∀(k:Nat)(left:List α)(out:Array α),left.length≤n→(iy f n k left out).toList.Perm (out.toList++left):=by
 induction n with
 |zero=>
  intro k left out h;rw[Lh (Nat.le_zero.mp h),TX];exact .refl _
 |succ n ih=>
  intro k left out h;change(match left[f k%left.length]? with|some x=>iy f n (k+1) (left.eraseIdx (f k%left.length)) (out.push x)|none=>out).toList.Perm _
  cases hx:left[f k%left.length]? with
  |some x=>
   have m:=(BX.mp hx);refine AX m fun m e=>?_;have:=ih (k+1) (left.eraseIdx (f k%left.length)) (out.push x) (by rw[Zds,if_pos m];exact ko h);refine this.trans ?_;rw[QF,YD];refine List.Perm.append_left _ ?_;rw[←e];exact aU m
  |none=>
   cases left with
   |nil=>rw[TX]
   |cons a l=>exact Bf (((Dq (Nat.mod_lt _ (!Cu _))).symm.trans hx))
theorem xV(f:Nat→Nat)(xs:Array α):(Tj f xs).toList.Perm xs.toList:=by
 have:=qU f xs.size 0 xs.toList #[] (!A9 _);show(iy f xs.size 0 xs.toList #[]).toList.Perm _;simpa using this
def Qj(w:AD)(h:A3)(a:AB)(es:Array (Int×Value))(ep:Nat)(t:SetTable)(tp:Option AB)(a1:List Value)(i:Nat)(first:Value):Prop:=
 (bt w=true∧a1=(Tj (w.params.setOrder a ep) es).toList.map (·.2)∧first=Bi 0)∨
 (bt w=false∧(not (t.plain)&&decide (es.size>1))=false∧a1=es.toList.map (·.2)∧∃a0:Nat,first=Bi a0∧Ek t.place a0=i)∨
 (∃(p:AB)(m:List Nat),tp=some p∧first=.ref p∧h.get? p=some {cls:=.type "tuple",data:=.seq (m.map fun(n:Nat)=>Bi n).toArray}∧m.Perm (B3 es.size)∧a1=m.map fun n=>((es[n]?).map (·.2)).getD .none)
structure Hf(w:AD)(h:A3)(I a:AB)(es:Array (Int×Value))(ep:Nat)(t:SetTable)(tp:Option AB)(ord:List Value)(i:Nat):Prop where
 set:h.get? a=some {cls:=.type "set",dict:=none,data:=.set es ep t,slots:=#[]}
 it:∃first,h.get? I=some {cls:=.type "set_iterator",data:=.fields #[first,Bi i,.ref a,Bi es.size,Bi ep]}∧Qj w h a es ep t tp ord i first
 ne:a≠I∧∀p,tp=some p→p≠I
theorem Hf.typeIs{es ep t tp m i}(x:Hf w s.heap I a es ep t tp m i):s.TypeIs (.ref I) "set_iterator":=AI x.it fun zz n zz=>⟨_,n,rfl⟩
theorem Hf.frame{h h':A3}{I a:AB}{es ep t tp a0 i}(x:Hf w h I a es ep t tp a0 i)(k:∀b∈I::a::tp.toList,∀o,h.get? b=some o→h'.get? b=some o):Hf w h' I a es ep t tp a0 i:=by
 refine AI x.it fun first ho m=>?_
 refine⟨k a (by simp) _ x.set,⟨first,k I (!Dg) _ ho,?_⟩,x.ne⟩
 rcases m with m|m|⟨p,n,e,m1,m2,m3⟩
 ·exact .inl m
 ·exact .inr (.inl m)
 ·exact .inr (.inr ⟨p,n,e,m1,k p (by simp[e]) _ m2,m3⟩)
theorem jO(ho:s.heap.get? a=some {cls:=.type "set",dict:=none,data:=.set es ep t,slots:=#[]})(D:Gg w es t S n)
  (h:∀I h' d tp a1,Hf w h' I a es ep t tp a1 0→a1.Perm (es.toList.map (·.2))→(∀b∈I::tp.toList,s.heap.get? b=none)→(∀b o,s.heap.get? b=some o→h'.get? b=some o)→Q (.ref I) {s with heap:=h',drawn:=d}):
  AR (Ae pg w) A (Ng (.ref a)) Q E s:=by
 have hT:s.TypeIs (.ref a) "set":=⟨_,ho,rfl⟩;have a2:Ek t.place 0=0:=by
  refine BN (UV (j:=0) D.tab.asc) fun h1 h2 zz=>?_;cases q:Ek t.place 0 with
  |zero=>rfl
  |succ m=>
   have:0<t.place.size:=by exact BS zb h1 q
   exact absurd (h2 0 _ (!Am kA q) (KZ this)) (Li _)
 refine wpAny_pyIter_slot hT Zdt (HM Zdt hT vi ?_ (PySem.F.args_set_iter_1 _));show AR _ _ (do
  let n ←Zdu a;let first ←if ←setDrawn a then newTuple ((←drawOrder n (B3 n)).map fun(i:Nat)=>Bi i)else pure (Bi 0)
  ret (←newFields "set_iterator" [first,Bi 0,.ref a,Bi n,Bi (←setEpoch a)])) _ _ s
 unfold Zdu setDrawn setsByText;refine AE (AE (iz ho rfl D.fits (Ad ?_)));refine AE (AE (QL ho rfl D.fits (AE (AE (KV (Ad (Ad ?_)))))));change AR _ _ (if(not (bt w)&&(not (t.plain)&&decide (es.size>1)))=true then _ else _) _ _ s;have fin:∀(s₁:AQ)(first:Value)(tp:Option AB)(a1:List Value),s₁.heap.get? a=some {cls:=.type "set",dict:=none,data:=.set es ep t,slots:=#[]}→(∀h',(∀b o,s₁.heap.get? b=some o→h'.get? b=some o)→Qj w h' a es ep t tp a1 0 first)→
   (∀p,tp=some p→p<s₁.heap.objs.size∧s.heap.get? p=none)→a1.Perm (es.toList.map (·.2))→(∀b o,s.heap.get? b=some o→s₁.heap.get? b=some o)→(∃d,s₁={s with heap:=s₁.heap,drawn:=d})→
   AR (Ae pg w) A.in1 (do ret (←newFields "set_iterator" [first,Bi 0,.ref a,Bi es.size,Bi (←setEpoch a)])) (fun f s'=>∃v,f=.done (.ret v)∧∃T' r,s'.TypeIs v T'∧No (.type T') "__next__"=pure (some r)∧Q v s') E s₁:=by
  intro s₁ first tp a1 a0 hm a5 a4 hk ⟨d,hd⟩
  refine AE (wpAny_setEpoch_of a0 rfl D.fits ?_);refine AE (Ni (Ad ⟨_,rfl,"set_iterator",_,⟨_,Bz _ rfl,rfl⟩,MT.lookup,?_⟩));have e:s₁={s with heap:=s₁.heap,drawn:=d}:=hd;have hI:s₁.heap.get? s₁.heap.objs.size=none:=Ie (A9 _);have k1:∀b o,s₁.heap.get? b=some o→(s₁.heap.push {cls:=.type "set_iterator",data:=.fields #[first,Bi 0,.ref a,Bi es.size,Bi ep]}).get? b=some o:=fun b o e=>BC _ e
  have:=h s₁.heap.objs.size (s₁.heap.push {cls:=.type "set_iterator",data:=.fields #[first,Bi 0,.ref a,Bi es.size,Bi ep]}) d tp a1
   ⟨k1 _ _ a0,⟨first,Bz _ rfl,hm _ k1⟩,⟨(fun e=>by rw[e,hI]at a0;exact Au a0),(fun p hp e=>Bm (a5 p hp).1 e)⟩⟩ a4 (fun b hb=>?_) fun b o e=>k1 _ _ (hk _ _ e)
  ·rw[e];exact this
  ·rcases A7.mp hb with rfl|hb
   ·cases q:s.heap.get? s₁.heap.objs.size with
    |none=>rfl
    |some o=>exact Bf (((hk _ _ q).symm.trans hI))
   ·exact(a5 b (by simpa using hb)).2
 cases hm:(not (bt w)&&(not (t.plain)&&decide (es.size>1)))with
 |false=>
  rw[if_neg Gq];refine AE (Ad ?_);cases hb:bt w with
  |true=>exact fin s (Bi 0) none _ ho (fun h' zz=>.inl ⟨hb,rfl,rfl⟩) (fun p e=>!Au e) ((xV _ es).map _) (fun zz zz e=>e) ⟨s.drawn,rfl⟩
  |false=>
   rw[hb]at hm;exact fin s (Bi 0) none _ ho (fun h' zz=>.inr (.inl ⟨hb,by simpa using hm,rfl,0,rfl,a2⟩)) (fun p e=>!Au e) (.refl _) (fun zz zz e=>e) ⟨s.drawn,rfl⟩
 |true=>
  rw[if_pos rfl];refine AE (vk es.size (B3 es.size) (by simp) fun ys d hp=>?_);have hl:ys.length=es.size:=by rw[hp.length_eq,Lz]
  refine AE (wpAny_newTuple ?_ (by rw[AU,hl];exact ip (by rw[D.sz];exact D.lt)));have a3:∀b o,s.heap.get? b=some o→(s.heap.push {cls:=.type "tuple",data:=.seq (ys.map fun(i:Nat)=>Bi i).toArray}).get? b=some o:=fun b o e=>BC _ e;refine fin {s with heap:=s.heap.push {cls:=.type "tuple",data:=.seq (ys.map fun(i:Nat)=>Bi i).toArray},drawn:=d} (.ref s.heap.objs.size) (some s.heap.objs.size) _ (a3 _ _ ho)
   (fun h' k=>.inr (.inr ⟨_,ys,rfl,rfl,k _ _ (Bz _ rfl),hp,rfl⟩)) (fun p e=>by obtain rfl:=An e;exact⟨by show _<(s.heap.push _).objs.size;rw[Jk];exact A9 _,Ie (A9 _)⟩) ?_ a3 ⟨d,rfl⟩
  refine(hp.map _).trans (List.Perm.of_eq ?_);refine List.ext_getElem (by simp) fun i h1 h2=>?_;simp at h1;simp[h1]
theorem c7(hb:bt w=true)(ho:s.heap.get? a=some {cls:=.type "set",dict:=none,data:=.set es ep t,slots:=#[]})(n:t.fits es.size=true)
  (h:Q (((Tj (w.params.setOrder a ep) es)[i]?).map fun e=>(e.2,m)) s):AR (Ae pg w) A (setNext a m i ep) Q E s:=by
 unfold setNext setWalk setsByText;refine AE (QL ho rfl n (AE (AE (KV (Ad ?_)))));change AR _ _ (if bt w=true then _ else _) _ _ s;rw[if_pos hb];have:(ep != ep)=false:=by simp
 simp -iota only[this,HN,if_false];refine AE (AE (QL ho rfl n (AE (AE (KV (Ad ?_))))));change AR _ _ (if bt w=true then _ else _) _ _ s;rw[if_pos hb];exact AE (KV (Ad (Ad h)))
set_option backward.match.sparseCases true in
theorem YO(hb:bt w=false)(hl:t.led=true)(hp:(not (t.plain)&&decide (es.size>1))=false)(ho:s.heap.get? a=some {cls:=.type "set",dict:=none,data:=.set es ep t,slots:=#[]})(n:t.fits es.size=true)
  (h:Q (match es[Ek t.place m]?,t.place[Ek t.place m]? with|some (_,x),some j=>some (x,j+1)|_,_=>none) s):AR (Ae pg w) A (setNext a m i ep) Q E s:=by
 unfold setNext setsByText;refine AE (QL ho rfl n (AE (AE (KV (Ad ?_)))));change AR _ _ (if bt w=true then _ else _) _ _ s;rw[if_neg (by rw[hb];exact Gq)];change AR _ _ (if(not (t.plain)&&decide (es.size>1))=true then _ else _) _ _ s;rw[if_neg (by rw[hp];exact Gq)];change AR _ _ ((if(not (t.led)&& not (es.isEmpty))=true then _ else _)>>=_) _ _ s;rw[hl,if_neg (by simp)];exact AE (Ad (Ad h))
theorem OD{h:A3}{I:AB}{o:C0}{vs:Array Value}{i:Nat}{x:Value}(n:h.get? I=some o)(hd:o.data=.fields vs)(m:o={cls:=.type "set_iterator",data:=.fields vs}):
  (h.update I (Obj.mapFields (·.setIfInBounds i x))).get? I=some {cls:=.type "set_iterator",data:=.fields (vs.setIfInBounds i x)}:=by
 subst m;exact GS _ n rfl
theorem s4(D:Gg w es t S n)(x:Hf w s.heap I a es ep t tp a3 i)(hv:a3[i]? =some v)
  (hQ:∀h',Hf w h' I a es ep t tp a3 (i+1)→E9 I s.heap h'→Q (some v) {s with heap:=h'}):AR (Ae pg w) A (Jj (.ref I)) Q E s:=by
 refine AI x.it fun first ho m=>?_
 have hs:=x.set;unfold Jj;refine AE (i3 (iW (name:=QG "__next__") x.typeIs MT (HM MT x.typeIs cN ?_ (fO _))));show AR _ _ (fieldsOf (.ref I)>>=_) _ _ s;refine AE (wpAny_fieldsOf ho rfl ?_);dsimp -iota only[Bi];refine AE (iz hs rfl D.fits ?_);have c2:(((es.size:Nat):Int) != (es.size:Nat))=false:=by simp
 rw[c2];simp -iota only[HN,if_false];have a9:∀{h':A3},E9 I s.heap h'→∀b∈a::tp.toList,∀o,s.heap.get? b=some o→h'.get? b=some o:=fun{h'} sb b hb o e=>by
  refine(sb.2 b fun q=>?_).trans e;subst q;rcases A7.mp hb with q|q
  ·exact x.ne.1 q.symm
  ·exact x.ne.2 b (by simpa using q) rfl
 have a2:∀{h':A3}{a0:Value},E9 I s.heap h'→h'.get? I=some {cls:=.type "set_iterator",data:=.fields #[a0,Bi (i+1:Nat),.ref a,Bi es.size,Bi ep]}→Qj w h' a es ep t tp a3 (i+1) a0→Hf w h' I a es ep t tp a3 (i+1):=
  fun{h' a0} sb e m'=>⟨a9 sb a (!Dg) _ hs,⟨a0,e,m'⟩,x.ne⟩
 have a6:∀(nx:Nat),(∀h',Qj w h' a es ep t tp a3 (i+1) (Bi nx))→AR (Ae pg w) A.in1 (do
    setField (Fi I) 0 (Nt (nx:Nat) 0)
    setField (Fi I) 1 (Nt ((i:Nat)+1) 0)
    ret v) (fun fin s'=>∃v,fin=Fin.done (Flow.ret v)∧AR (Ae pg w) A (pure (some v)) Q E s') (fun e s'=>AR (Ae pg w) A (do
     let __do_lift ←Tk e (Ef "StopIteration")
     if __do_lift=true then pure none else throw e) Q E s') s:=fun nx hm=>by
  refine AE (L1 ho rfl (!Cu _) (AE (L1 (OD (vs:=#[first,Bi i,.ref a,Bi es.size,Bi ep]) ho rfl rfl) rfl (!ld rfl) (Ad ⟨v,rfl,Ad (hQ _ (a2 ?_ ?_ (hm _)) ?_)⟩))))
  ·exact(Ei ..).trans (Ei ..)
  ·have:=OD (i:=1) (x:=Nt ((i:Nat)+1) 0) (OD (i:=0) (x:=Nt (nx:Nat) 0) (vs:=#[first,Bi i,.ref a,Bi es.size,Bi ep]) ho rfl rfl) rfl rfl
   exact this
  ·exact(Ei ..).trans (Ei ..)
 rcases m with⟨hb,a5,rfl⟩|⟨hb,hp,a5,c5,rfl,c4⟩|⟨p,a1,e,rfl,a8,a4,a5⟩
 ·dsimp -iota only[Bi];have b6:((i:Nat):Int).toNat=i:=EN i;have c3:((ep:Nat):Int).toNat=ep:=EN ep;rw[b6,c3];refine AE (c7 hb hs D.fits ?_);subst a5;rw[CH,Dp]at hv;cases q:(Tj (w.params.setOrder a ep) es)[i]? with
  |none=>rw[q]at hv;cases hv
  |some e=>
   rw[q]at hv;cases hv;exact a6 0 fun h'=>.inl ⟨hb,rfl,rfl⟩
 ·dsimp -iota only[Bi];have b4:t.led=true:=D.tab.led.elim (fun q=>nomatch (hb.symm.trans q)) id;refine AE (YO hb b4 hp hs D.fits ?_);subst a5;rw[CH,Dp]at hv;rw[EN,c4];have b0:t.place.size=es.size:=by have:=D.fits;simp -iota only[SetTable.fits,Fg,beq_iff_eq]at this;exact this.1
  cases q:es[i]? with
  |none=>rw[q]at hv;cases hv
  |some e=>
   rw[q]at hv;cases hv;have hi:=(Nn.mp q).1;have hj:t.place[i]? =some t.place[i]:=KZ (!AK hi (Ac b0.symm));rw[hj];refine a6 (t.place[i]+1) fun h'=>.inr (.inl ⟨hb,hp,rfl,_,rfl,?_⟩);refine BN (UV (j:=t.place[i]+1) D.tab.asc) fun b1 b2 b3=>?_;generalize hB:Ek t.place (t.place[i]+1)=B at b1 b2 b3 ⊢;have h1:¬B≤i:=fun q=>by have:=b3 i _ q hj;exact EI _ (AK (A9 _) this)
   have h2:¬i+1<B:=fun q=>by
    have a7:i+1<t.place.size:=by exact AK q b1
    have:=b2 (i+1) _ q (KZ a7);have:=D.tab.asc.lt (Nk i) hj (KZ a7);exact Hq j4 b0 hi a7 (by assumption) this
   exact Ej (EM h2) (Nat.lt_of_not_le h1)
 ·dsimp only;refine AE (iZ a8 rfl ?_);subst a5;rw[CH]at hv;rw[EN];cases q:a1[i]? with
  |none=>rw[q]at hv;cases hv
  |some k=>
   rw[q]at hv;have hk:k<es.size:=by have:=a4.mem_iff.mp (C6 q);simpa using this
   have b5:es[k]? =some es[k]:=KZ hk;have c1:v=es[k].2:=by simp[b5]at hv;exact hv.symm
   have b7:(a1.map fun(n:Nat)=>Bi n).toArray[i]? =some (.int k 0):=by simp[q,Bi]
   dsimp only;rw[b7];dsimp only;unfold setNextDrawn;refine AE (AE (QL hs rfl D.fits ?_));have he:(((ep:Nat):Int).toNat != ((ep:Nat):Int).toNat)=false:=by simp
   dsimp only;rw[EN,EN];have he:(ep != ep)=false:=by simp
   rw[he];simp -iota only[HN,if_false];rw[b5];refine Ad ?_;refine AE (L1 ho rfl (!ld rfl) (Ad ⟨_,rfl,Ad ?_⟩));show Q (some es[k].2) _;rw[←c1];refine hQ _ (a2 (Ei ..) (OD (i:=1) (x:=Nt ((i:Nat)+1) 0) (vs:=#[.ref p,Bi i,.ref a,Bi es.size,Bi ep]) ho rfl rfl) (.inr (.inr ⟨p,a1,e,rfl,a9 (Ei ..) p (by simp[e]) _ a8,a4,rfl⟩))) (Ei ..)
theorem UJ{P:Fin→AQ→Prop}{Q:Option Value→AQ→Prop}(n:A.handled=none)(hQ:∀h',(∀b o,s.heap.get? b=some o→h'.get? b=some o)→Q none {s with heap:=h'}):
  AR (Ae pg w) A.in1 (do
   let x ←newExc (.type "StopIteration") []
   raiseNew x) P (fun e s'=>AR (Ae pg w) A (do
     let b ←Tk e (Ef "StopIteration")
     if b=true then pure none else throw e) Q E s') s:=by
 refine AE ?_;simp -iota only[newExc,newTuple];refine AE (Ni ?_ (by size_fits));refine AE (m:=firstArgMember _ _) (Lo (a:=Lu) (by first|rfl|(simp -iota only[firstArgMember];rfl)) ?_)
 refine Ni ?_ (by size_fits);simp -iota only[raiseNew];refine AE (wpAny_handled ?_);rw[show A.in1.handled=none from n];refine AE (Ad (wpAny_throw ?_));refine AE (wpAny_isInstance (T:="StopIteration") (b:=true) ⟨_,Bz _ rfl,rfl⟩ isSubtype_stop ?_);exact Ad (hQ _ fun b o e=>BC _ (BC _ e))
def VD(A:Ab)(E:Value→AQ→Prop)(s:AQ)(es:Array (Int×Value))(t:SetTable)(n:Nat)(I:AB)(a:AB)(ep:Nat)(tp:Option AB)(i:Nat)(Q:Option Value→AQ→Prop):Prop:=∀{S:Int→Bool}{m:List Value}(hh:A.handled=none)(D:Gg w es t S n)(x:Hf w s.heap I a es ep t tp m i)(hv:m[i]? =none)(hQ:∀h',g5 I s.heap h'→Q none {s with heap:=h'}),AR (Ae pg w) A (Jj (.ref I)) Q E s
def f7:(((Ab×(Value→AQ→Prop))×AQ)×(((Array (Int×Value))×SetTable)×Nat))×(((AB×AB)×Nat)×((Option AB×Nat)×(Option Value→AQ→Prop)))→Prop:=fun t=>VD t.1.1.1.1 t.1.1.1.2 t.1.1.2 t.1.2.1.1 t.1.2.1.2 t.1.2.2 t.2.1.1.1 t.2.1.1.2 t.2.1.2 t.2.2.1.1 t.2.2.1.2 t.2.2.2
def G9:=zE f7 (((({},(fun _ _=>True)),{}),((#[],Bk),0)),(((0,0),0),((none,0),(fun _ _=>True))))
def xk:=G9.1.1.1.1
def qD:=G9.1.1.1.2
def Rl:=G9.1.1.2
def Mf:=G9.1.2.1.1
def ZX:=G9.1.2.1.2
def Vg:=G9.1.2.2
def Re:=G9.2.1.1.1
def VE:=G9.2.1.1.2
def Mv:=G9.2.1.2
def qo:=G9.2.2.1.1
def JA:=G9.2.2.1.2
def jV:=G9.2.2.2
theorem zV:VD xk qD Rl Mf ZX Vg Re VE Mv qo JA jV:=fun{S}{b0} hh D x hv hQ=>by
 refine AI x.it fun first ho m=>?_
 have hs:=x.set;unfold Jj;refine AE (i3 (iW (name:=QG "__next__") x.typeIs MT (HM MT x.typeIs cN ?_ (fO _))));show AR _ _ (fieldsOf (.ref Re)>>=_) _ _ Rl;refine AE (wpAny_fieldsOf ho rfl ?_);dsimp -iota only[Bi];refine AE (iz hs rfl D.fits ?_);have a6:(((Mf.size:Nat):Int) != (Mf.size:Nat))=false:=by simp
 rw[a6];simp -iota only[HN,if_false];have a1:((JA:Nat):Int).toNat=JA:=EN JA;have a7:((Mv:Nat):Int).toNat=Mv:=EN Mv;have ext:∀{h₁ h':A3},E9 Re Rl.heap h₁→(∀b o,h₁.get? b=some o→h'.get? b=some o)→g5 Re Rl.heap h':=fun{h₁ h'} sb k b o hb e=>k b o ((sb.2 b hb).trans e);rcases m with⟨hb,a0,rfl⟩|⟨hb,hp,a0,a9,rfl,a8⟩|⟨p,n,e,rfl,a3,a4,a0⟩
 ·dsimp -iota only[Bi];rw[a1,a7];refine AE (c7 hb hs D.fits ?_);subst a0;rw[CH,Dp]at hv;cases q:(Tj (w.params.setOrder VE Mv) Mf)[JA]? with
  |some e=>rw[q]at hv;cases hv
  |none=>exact AE (L1 ho rfl (!ld rfl) (UJ hh fun h' k=>hQ h' (ext (Ei ..) k)))
 ·dsimp -iota only[Bi];have a2:ZX.led=true:=by
   rcases D.tab.led with q|q
   ·exact(nomatch ((hb.symm.trans q)))
   ·exact q
  refine AE (YO hb a2 hp hs D.fits ?_);subst a0;rw[CH,Dp]at hv;rw[EN,a8];cases q:Mf[JA]? with
  |some e=>rw[q]at hv;cases hv
  |none=>exact AE (L1 ho rfl (!ld rfl) (UJ hh fun h' k=>hQ h' (ext (Ei ..) k)))
 ·dsimp only;refine AE (iZ a3 rfl ?_);subst a0;rw[CH]at hv;rw[a1];cases q:n[JA]? with
  |some k=>rw[q]at hv;cases hv
  |none=>
   have a5:(n.map fun(Vg:Nat)=>Bi Vg).toArray[JA]? =none:=by simp[q]
   dsimp only;rw[a5];dsimp only;exact AE (L1 ho rfl (!Cu _) (AE (L1 (OD (vs:=#[.ref p,Bi JA,.ref VE,Bi Mf.size,Bi Mv]) ho rfl rfl) rfl (!ld rfl) (UJ hh fun h' k=>hQ h' (ext ((Ei ..).trans (Ei ..)) k)))))
theorem kI{A E s es t n I a ep tp i Q}:VD A E s es t n I a ep tp i Q:=@zF _ f7 _ @zV ((((A,E),s),((es,t),n)),(((I,a),ep),((tp,i),Q)))
theorem ya(hh:A.handled=none){I a:AB}{es:Array (Int×Value)}{ep:Nat}{t:SetTable}{S:Int→Bool}{n:Nat}{tp:Option AB}{m:List Value}(D:Gg w es t S n):
  Walks pg w A I (I::a::tp.toList) [I] m.length (fun i v=>m[i]? =some v) (fun i h=>Hf w h I a es ep t tp m i) where
 sub:=fun b hb=>by rw[Aq]at hb;subst hb;exact Dg
 frame:=fun i h h' st k=>st.frame k
 item:=fun i s Q E hi st hQ=>by
  have hv:m[i]? =some m[i]:=Dq hi;exact s4 D st hv fun h' a0 sb=>hQ _ h' s.toks hv a0 (fun b o hb e=>(sb.2 b (by simpa using hb)).trans e)
 done:=fun s Q E st hQ=>kI hh D st (Lq (A9 _)) fun h' eb=>hQ h' s.toks (fun b o hb e=>eb b o (by simpa using hb) e)
 self:=fun i s Q E st hQ=>by
  have hT:s.TypeIs (.ref I) "set_iterator":=st.typeIs;refine wpAny_pyIter_slot hT fb (HM fb hT mE ?_ (zu _));show AR _ _ (ret (.ref I)) _ _ s;exact Ad ⟨_,rfl,"set_iterator",_,hT,MT.lookup,hQ⟩
theorem vf:No (.type "set") "__len__"=pure (some (.builtin "set.__len__")):=by rw[YA,YB];kernel_rfl
theorem tY(m:s.TypeIs (.ref a) "set")(h:Q false s):AR (Ae pg w) A (Zdv (.ref a)) Q E s:=by
 unfold Zdv;refine AE (Ta m vf ?_);have hs:splitId "set.__len__"=some ("set","__len__"):=by decide+kernel
 generalize splitId "set.__len__"=r at hs ⊢;subst hs;refine AE (wpAny_isInstance m sub_set_self ?_);rw[if_neg ⋯];refine AE (Xs m ?_);exact Ad h
def Wp(A:Ab)(E:Value→AQ→Prop)(s:AQ)(Q:List Value→AQ→Prop):Prop:=∀{a:AB}{es:Array (Int×Value)}{ep:Nat}{t:SetTable}{S:Int→Bool}{n:Nat}(m:A.handled=none)(ho:s.heap.get? a=some {cls:=.type "set",dict:=none,data:=.set es ep t,slots:=#[]})(D:Gg w es t S n)(hQ:∀vs h' d tk,vs.Perm (es.toList.map (·.2))→(∀b o,s.heap.get? b=some o→h'.get? b=some o)→Q vs {s with heap:=h',drawn:=d,toks:=tk}),AR (Ae pg w) A (collect (.ref a)) Q E s
def bw:(Ab×(Value→AQ→Prop))×(AQ×(List Value→AQ→Prop))→Prop:=fun t=>Wp t.1.1 t.1.2 t.2.1 t.2.2
def SP:=zE bw (({},(fun _ _=>True)),({},(fun _ _=>True)))
def KI:=SP.1.1
def lr:=SP.1.2
def C8:=SP.2.1
def dJ:=SP.2.2
theorem zC:Wp KI lr C8 dJ:=fun{a}{es}{ep}{t}{S}{n} hh ho D hQ=>by
 have b4:a<C8.heap.objs.size:=DJ ho;unfold collect;refine AE (wpAny_runValue (Nu PySem.F.entry_proto_collect ?_));rw[Th PySem.F.plain_proto_collect _];show AR _ KI.in1 (TV []>>=fun l=>again (.builtin "list.__iadd__" ⟨[l,.ref a],[]⟩)) _ _ C8;refine AE (Ni ?_);refine Ad ⟨X0 Zdw _,Nu PySem.F.entry_list_iadd ?_⟩;rw[Th Zdw _];have a1:(C8.heap.push {cls:=.type "list",data:=.seq ([]:List Value).toArray}).get? a=_:=BC _ ho;have a2:(C8.heap.push {cls:=.type "list",data:=.seq ([]:List Value).toArray}).get? C8.heap.objs.size=some {cls:=.type "list",data:=.seq ([]:List Value).toArray}:=Bz _ rfl;show AR _ KI.in1 (Zdx (.ref C8.heap.objs.size) (.ref a) (.ref C8.heap.objs.size)) _ _ _;unfold Zdx;have b0:iu {C8 with heap:=C8.heap.push {cls:=.type "list",data:=.seq ([]:List Value).toArray}} (.ref a) "set":=⟨_,a1,rfl⟩;refine AE (Xs b0 ?_);have h1:Zdy (.ref C8.heap.objs.size) (.ref a)=false:=by simp[Zdy,HP b4]
 have h2:(Ef "set"==Ef "list")=false:=by decide
 have h3:(Ef "set"==Ef "tuple")=false:=by decide
 simp -iota only[h1,h2,h3,i4,HN,if_false];refine AE (jO a1 D fun I h2 d tp a3 st a7 b2 a9=>?_);have b1:iu ({C8 with heap:=h2,drawn:=d}:AQ) (.ref a) "set":=⟨_,a9 _ _ a1,rfl⟩;have a4:=a9 _ _ a2;refine AE (CF (tY b1 ?_));have b5:C8.heap.objs.size∉I::a::tp.toList:=fun m=>by
  rcases A7.mp m with e|m
  ·have:=b2 I Dg;rw[←e,a2]at this;exact Bf this
  ·rcases A7.mp m with e|m
   ·exact HP b4 e
   ·have:=b2 _ (TT _ m);exact Bf ((a2.symm.trans this))
 have fin:∀(h3:A3)(c:Nat),(∀b o,b≠C8.heap.objs.size→h2.get? b=some o→h3.get? b=some o)→h3.get? C8.heap.objs.size=some {cls:=.type "list",data:=.seq #[] c}→
   FA (Ae pg w) KI (.builtin "list.extend.loop" ⟨[.ref C8.heap.objs.size,.ref I,.ref C8.heap.objs.size],[]⟩) (fun r s'=>match r with
    |.ok (.ret v)=>v=.ref C8.heap.objs.size∧∃a0 c',s'.heap.get? C8.heap.objs.size=some {cls:=.type "list",data:=.seq a0 c'}∧dJ a0.toList s'
    |_=>False) {C8 with heap:=h3,drawn:=d}:=by
  intro h3 c k3 b7;have c3:=st.frame (h':=h3) fun b hb o e=>k3 b o (fun e=>b5 (e▸hb)) e;have hn:a3.length≤Nj:=by rw[a7.length_eq,AU,Gs];exact ip (by rw[D.sz];exact D.lt)
  refine codeAny_extend_loopS (A:=KI) ((ya (A:=KI.in1) (by simp[hh]) (tp:=tp) D).toS) hn C8.heap.objs.size b5 _ a3.length 0 _ #[] c rfl (Bc _) c3 b7 (ItemsOf.nil _) fun s' a0 c' hm b3 a5=>⟨rfl,a0,c',b3,?_⟩;obtain⟨h',g',d',c1,c2⟩:=s';have eg:g'=C8.gens:=hm.gens;have ed:d'=d:=hm.drawn;have eo:c2=C8.os:=hm.os;subst eg;subst ed;subst eo;have hv:a0.toList=a3:=by
   refine Tm fun j=>?_;by_cases hj:j<a3.length
   ·have:j<a0.size:=by rw[a5.1];exact hj
    have e1:a0[j]? =some a0[j]:=KZ this;rw[Dp,e1,a5.2 j _ e1]
   ·rw[Lq (l:=a0.toList) (by rw[Gs,a5.1];exact EM hj),Lq (l:=a3) (!EM hj)]
  rw[hv];refine hQ a3 h' d' c1 a7 fun b o e=>?_;have hb:=DJ e;have c4:b≠I:=fun q=>by have:=b2 I Dg;rw[←q]at this;exact Bf (((BC _ e).symm.trans this))
  exact hm.heap b o (by simp -iota only[A7,HR,or_false,not_or];exact⟨Bm hb,c4⟩) (k3 b o (Bm hb) (a9 _ _ (BC _ e)))
 refine wpAny_ite_split (fun zz=>?_) (fun q=>absurd (by decide+kernel) q);refine AE (Lv ?_);refine AE ?_;show AR _ KI.in1 (updateSeq C8.heap.objs.size (·.push .none)>>=fun zz=>updateSeq C8.heap.objs.size (·.pop)) _ _ _;refine AE (ib a4 rfl ?_);have a6:=GS (DV (·.push Lu)) a4 rfl;refine ib a6 rfl ?_;have a8:=GS (DV (·.pop)) a6 rfl;refine Ad ⟨X0 PySem.F.plain_extend_loop _,Nq (fin _ _ (fun b o hb e=>(HO _ _ (Ne.symm hb)).trans ((HO _ _ (Ne.symm hb)).trans e)) a8) fun r s' hr=>?_⟩;cases r with
 |error e=>exact hr.elim
 |ok fl=>
  cases fl with
  |ret v=>
   refine MU hr fun b6 a0 c' b3 q=>?_;subst b6;show AR _ KI (load C8.heap.objs.size>>=_) _ _ s';refine AE (YE b3 ?_);exact Ad q
  |_=>exact hr.elim
theorem lA{A E s Q}:Wp A E s Q:=@zF _ bw _ @zC ((A,E),(s,Q))
variable {σ σ' σ'' τ τ':AA} {s' s'':AQ} {h h':A3} {env:Af} {ρ ρ':AW}
theorem zW{h:A3}{a:AB}{vs:List Value}{out:Array Value}{n:Nat}(e1:h.get? a=some (Bn "list" vs.toArray n)):
  (∀b o,b≠a→h.get? b=some o→(Tc h a vs out).get? b=some o)∧∃n,(Tc h a vs out).get? a=some {cls:=.type "list",data:=.seq out n}:=by
 unfold Tc;constructor
 ·intro b o m e;rw[HO _ _ (Ne.symm m)];refine BC _ (BC _ ?_);rw[HO _ _ (Ne.symm m)];exact e
 ·obtain⟨n1,e2⟩:∃n1,(h.update a (DV fun zz=>#[])).get? a=some (Bn "list" #[] n1):=⟨_,Td e1 (fun zz=>#[])⟩;have e3:=BC (Bn "list" #[] 0) (BC (Bn "tuple" vs.toArray 0) e2);exact⟨_,Td e3 (fun zz=>out)⟩
theorem pM:∀{vs:List Value},(∀v∈vs,∃k t,v=.int k t)→Ji vs (vs.map Ol):=by
 intro vs
 induction vs with
 |nil=>
  intro _;exact .nil
 |cons v vs n=>
  intro h;refine Bx (h v (.head _)) fun k t m=>?_;subst m;exact .cons k t (n fun u hu=>h u (.tail _ hu))
theorem rc(hh:A.handled=none)(hS:HY w s.heap a is)(b6:is.length<64)
  (h:∀(out:Array Value)(js:List Int),Ji out.toList js→js.Pairwise (· <·)→(∀k,k∈js↔k∈is)→∀D h' d tk n,s.heap.get? D=none→h'.get? D=some {cls:=.type "list",data:=.seq out n}→(∀b o,s.heap.get? b=some o→h'.get? b=some o)→Q (.ref D) {s with heap:=h',drawn:=d,toks:=tk}):
  AR (Ae pg w) A (call (.builtin "sorted") [.ref a]) Q E s:=by
 refine AX hS fun m a7=>AL a7 fun hm a8=>Kv a8 fun es ep t ho D=>?_;refine Zdz kind_sorted plain_sorted entry_sorted (args_sorted1 _) ?_;unfold Builtin.«sorted»;refine AE (m:=checkCount "sorted" 1 1 _) (Ad ?_);refine AE (lA (by simp[hh]) ho D fun vs h1 d tk hp hk=>?_);have a9:vs.length=es.size:=by rw[hp.length_eq,AU,Gs]
 have b1:∀v∈vs,∃k t,v=.int k t:=fun v hv=>by
  refine AI (BD.mp (hp.mem_iff.mp hv)) fun e he b5=>?_;subst b5;refine AL (D.el e he) fun b4 zz=>AI b4 fun k a0 zz=>?_;refine AX (Pu a0) fun t ht=>?_;exact⟨k,t,ht⟩
 have b2:vs.length≤63:=by rw[a9,D.sz];exact Am xC b6 hm
 refine AE (i5 ?_ (by have:=CG;exact AK b2 (AK (ld rfl) (Ac this.symm))));have a6:(h1.push (Bn "list" vs.toArray 0)).get? h1.objs.size=some (Bn "list" vs.toArray 0):=Bz _ rfl;refine AE (CF (HM slot_list_sort ⟨_,a6,rfl⟩ entry_list_sort (list_sort_tree a6 (pM b1) (!CD b2) fun out ns' a1 a2 a3=>⟨_,rfl,?_⟩) (args_list_sort _)));refine Fw (zW (out:=out) a6) fun k1 n eo=>?_;refine Ad ⟨_,rfl,h out ns' a1 ?_ (fun k=>?_) h1.objs.size _ d tk n ?_ eo fun b o e=>k1 b o ?_ (BC _ (hk b o e))⟩
 ·have b7:ns'.Nodup:=by
   refine a2.nodup_iff.mpr ?_;have:(vs.map Ol).Perm (es.toList.map fun e=>Ol e.2):=by have:=hp.map Ol;rwa [Bu]at this
   exact this.nodup_iff.mpr D.nd
  exact(a3.and b7).imp fun a5=>AL a5 fun q1 q2=>by exact qa a5
 ·rw[a2.mem_iff];have a4:=D.mem k;constructor
  ·intro q;refine AI (BD.mp q) fun v hv e1=>?_;refine AI (BD.mp (hp.mem_iff.mp hv)) fun e he b0=>?_;subst b0;refine AL (D.el e he) fun b3 zz=>AI b3 fun k' a0 zz=>?_;refine AX (Pu a0) fun t' ht=>?_;have:k'=k:=by rw[ht]at e1;exact e1
   subst this;have:=a4.mpr ⟨e,he,a0⟩;simpa using this
  ·intro q;refine AI (a4.mp (by simpa using q)) fun e he a0=>?_;refine AX (Pu a0) fun t' ht=>?_;exact BD.mpr ⟨e.2,hp.mem_iff.mpr (BD.mpr ⟨e,he,rfl⟩),by rw[ht];rfl⟩
 ·cases q:s.heap.get? h1.objs.size with
  |none=>rfl
  |some o=>exact absurd (DJ (hk _ _ q)) (EI _)
 ·rintro rfl;exact EI _ (DJ (hk _ _ e))
theorem Zaz{f1 f2:Str}{p1 p2 q1 q2:A8}{x:Expr}(hh:A.handled=none)
  (k:EV A env (.Name f1 p1) ρ σ fun fv a4=>fv=.fix (.builtin "sorted")∧EV A env (.Name f2 p2) ρ a4 fun fv a2=>fv=.fix (.type "set")∧EV A env x ρ a2 fun v σ₂=>∃l is,v=.ref l∧σ₂ l=some (.list (BI is))∧is.length<64∧
   ∀js:List Int,js.Pairwise (· <·)→(∀k,k∈js↔k∈is)→∀D,σ₂ D=none→hb.get? D=none→Φ (.ref D) (upd σ₂ D (.list (BI js))))
  (hp:autoParam (CJ [x]=true) aR)(he:autoParam (∀env,BZ [.Call (.Name f2 p2) [x] [] q2] env=[(false,A0 (.Call (.Name f2 p2) [x] [] q2) env)]) aI)(hx:autoParam (∀env,BZ [x] env=(false,A0 x env)::BZ [] env) aI):
  EV A env (.Call (.Name f1 p1) [.Call (.Name f2 p2) [x] [] q2] [] q1) ρ σ Φ:=fun s S=>
 TO (AT (k s S) (fun u s₁ a3=>BG a3 fun fv a2 r g t a3=>AL a3 fun e1 a5=>by
  subst e1;obtain rfl:=VR.inv_fix r;have b1:=S.step g t;have a6:CJ [Expr.Call (.Name f2 p2) [x] [] q2]=true:=rfl;refine g8 (Er a6) (GX (Er a6) ?_);refine TL (e:=.Call (.Name f2 p2) [x] [] q2) (rest:=[]) (Oa b1 (a5.mono fun fv σ₂ b3=>AL b3 fun e2 b0=>⟨_,e2,AC.cons (b0.mono fun v a0 b4=>mW b4 fun l is e3 el hl q=>AC.nil (fun m vs a1 a8 a7=>?_)) hx⟩) hp) (he _);subst e3;cases a8 with
  |cons r r'=>
   cases r';obtain rfl:=VR.inv_ref r;refine Ci ((a1.own _ _ el).2) fun items n o qs=>?_;have hI:=Vd qs;have b5:items.toList.length=is.length:=by rw[←qs.length,AU]
   refine jY hh (items:=items) ⟨_,o,rfl,n,rfl⟩ hI (by unfold KT;exact ln (CD hl) rfl) fun h5 b6 hS k5=>?_;refine TJ ?_;refine rc hh hS hl fun out js hO a9 b2 D h6 d tk n' hD eo k6=>?_;have kk:∀b o,m.heap.get? b=some o→h6.get? b=some o:=fun b o e=>k6 _ _ (k5 _ _ e);have nD:m.heap.get? D=none:=by
    cases z:m.heap.get? D with
    |none=>rfl
    |some o=>have:=k5 _ _ z;exact Au (((show h5.get? D=none from hD).symm.trans this))
   refine AL (Yx a1 nD) fun n1 n2=>?_;exact⟨.ref D,upd a0 D (.list (BI js)),.ref _,(a1.keeps kk).adopt n2 ⟨out,n',eo,Yi hO⟩,(t.trans a7).trans ((Ar.keeps (σ:=a0) (s:=m) (s':={m with heap:=h6,drawn:=d,toks:=tk}) kk rfl rfl).adopt fun zz=>nD),q js a9 b2 D n1 n2⟩) fun zz zz e=>e)
end
section
variable {σ σ' σ'' τ τ':AA} {s s' s'':AQ} {h h':A3} {A:Ab} {env:Af} {ρ ρ':AW}
abbrev mj(x y:Str)(px n p2:A8)(m:Expr):List Comprehension:=[⟨.Name x px,m,[],0⟩,⟨.Name y n,.Name x p2,[],0⟩]
abbrev FI(x y:Str)(px py p1 p2:A8)(m:Expr)(scope:C1)(n:A8):Expr:=.ListComp (.Name y p1) (mj x y px py p2 m) scope n
theorem yR(x y:Str)(px py p1 p2:A8)(m:Expr)(scope:C1)(a0:A8)(it n:Value)(env:Af):
  TU (FI x y px py p1 p2 m scope a0) 1 it n env=(Ck p2>>=fun zz=>Jj it>>=fun r=>match r with
   |none=>pure (.done .next)
   |some v=>Xj (.Name y py) it v>>=fun zz=>Fh (.Name y py) env v>>=fun zz=>
    (A0 (.Name y p1) env>>=fun x=>call (.builtin "list.append") [n,x]>>=fun zz=>pure Unit.unit)>>=fun zz=>
     again (.compLoop (FI x y px py p1 p2 m scope a0) 1 it n env)):=by rfl
theorem zB(x y:Str)(px py p1 p2:A8)(m:Expr)(scope:C1)(n:A8)(it a0:Value)(env:Af):
  TU (FI x y px py p1 p2 m scope n) 0 it a0 env=(Ck m.pos>>=fun zz=>Jj it>>=fun r=>match r with
   |none=>pure (.done .next)
   |some v=>Xj (.Name x px) it v>>=fun zz=>Fh (.Name x px) env v>>=fun zz=>
    A0 (.Name x p2) env>>=fun u=>Ck p2>>=fun zz=>Gw (.Name x p2) env u>>=fun u=>CS [u] (Ng u)>>=fun j=>
     runOwn (.compStart (FI x y px py p1 p2 m scope n) 1 j a0 env) env>>=fun zz=>
     again (.compLoop (FI x y px py p1 p2 m scope n) 0 it a0 env)):=by rfl
structure ID(w:AD)(C D:AB)(τ:AA)(s:AQ)(ys:List AV):Prop where
 nD:τ D=none
 nC:τ C=none
 pl:∃vs,s.heap.PlainList D vs∧VRs s.heap ys vs.toList
 ns:∃m,s.heap.Ns C m
theorem ID.kp(c:ID w C D τ s ys)(k:Kp a0 s s')(tk:Bp s.heap s'.heap)(hD:D∉a0)(hC:C∉a0):ID w C D τ s' ys:=by
 refine GC c.pl fun vs n e r=>?_;refine Jp c.ns fun m o es ep ho q=>?_;exact⟨c.nD,c.nC,⟨vs,⟨n,k.k _ _ hD e⟩,r.mono tk⟩,m,o,es,ep,k.k _ _ hC ho,q⟩
def Q9(scope:C1)(env:Af)(x y:Str):Bool:=
 scope.kind== .function&&env.scope.kind== .function&&decide ((scope.names.map (·.1)).Nodup)&&scope.names.lookup x==some .local&&scope.names.lookup y==some .local&&scope.names.all fun p=>p.2 != .free&&p.2 != .cell
structure bX(scope:C1)(env:Af)(x y:Str):Prop where
 kind:scope.kind=.function
 ekind:env.scope.kind=.function
 nd:(scope.names.map (·.1)).Nodup
 ox:scope.names.lookup x=some .local
 oy:scope.names.lookup y=some .local
 free:∀p∈scope.names,p.2≠.free
 cell:∀p∈scope.names,p.2≠.cell
theorem lV(h:Q9 scope env x y=true):bX scope env x y:=by
 unfold Q9 at h;simp only[Fg,beq_iff_eq,decide_eq_true_eq]at h;refine AL h fun m h6=>AL m fun a1 h5=>AL a1 fun n h4=>AL n fun a0 h3=>AL a0 fun h1 h2=>?_;have h7:=Fe.mp h6;simp only[Fg,bne_iff_ne]at h7;exact⟨h1,h2,h3,h4,h5,fun p hp=>(h7 p hp).1,fun p hp=>(h7 p hp).2⟩
def Ut(σ:AA)(s:AQ)(A:Ab)(env:Af)(ρ:AW)(scope:C1)(x:Str)(y:Str)(I:AB)(xs:List AV)(C:AB)(D:AB)(ys:List AV)(R:Jn→AQ→Prop)(px:A8)(py:A8)(p1:A8)(p2:A8)(m:L7)(n:A8):Prop:=∀(hh:A.handled=none)(hc:bX scope env x y)(S:St env ρ σ s.heap)(hI:Bo w σ s.heap I (.tup xs) 0)(a2:hb.get? I=none)(c:ID w C D σ s ys)(fD:D∉fp env)(fC:C∉fp env)(bD:hb.get? D=none)(bC:hb.get? C=none)(a3:D≠C)(a0:D≠I)(a1:C≠I)(hl:ys.length+xs.length≤1000000)(hd:(y==("__debug__":Str))=false)(q:∀s',St env ρ σ s'.heap→Kp [C,D,I] s s'→Bp s.heap s'.heap→ID w C D σ s' (ys++xs)→R (.ok .next) s'),FA (Ae pg w) A (.compLoop (FI x y px py p1 p2 m scope n) 1 (.ref I) (.ref D) (CQ scope env C)) R s
def bZ:((((AA×AQ)×Ab)×(Af×AW))×(((C1×Str)×Str)×(AB×List AV)))×((((AB×AB)×List AV)×((Jn→AQ→Prop)×A8))×(((A8×A8)×A8)×(L7×A8)))→Prop:=fun t=>Ut t.1.1.1.1.1 t.1.1.1.1.2 t.1.1.1.2 t.1.1.2.1 t.1.1.2.2 t.1.2.1.1.1 t.1.2.1.1.2 t.1.2.1.2 t.1.2.2.1 t.1.2.2.2 t.2.1.1.1.1 t.2.1.1.1.2 t.2.1.1.2 t.2.1.2.1 t.2.1.2.2 t.2.2.1.1.1 t.2.2.1.1.2 t.2.2.1.2 t.2.2.2.1 t.2.2.2.2
def EG:=zE bZ ((((((fun _=>none),{}),{}),(Bk,(fun _=>none))),(((Bk,Bk),Bk),(0,[]))),((((0,0),[]),((fun _ _=>True),Bk)),(((Bk,Bk),Bk),(Bk,Bk))))
def Mm:=EG.1.1.1.1.1
def VL:=EG.1.1.1.1.2
def dK:=EG.1.1.1.2
def Mb:=EG.1.1.2.1
def dC:=EG.1.1.2.2
def Qc:=EG.1.2.1.1.1
def OG:=EG.1.2.1.1.2
def Rs:=EG.1.2.1.2
def H4:=EG.1.2.2.1
def En:=EG.1.2.2.2
def GE:=EG.2.1.1.1.1
def Ft:=EG.2.1.1.1.2
def Ug:=EG.2.1.1.2
def pS:=EG.2.1.2.1
def bd:=EG.2.1.2.2
def Wk:=EG.2.2.1.1.1
def fu:=EG.2.2.1.1.2
def aF:=EG.2.2.1.2
def dk:=EG.2.2.2.1
def bI:=EG.2.2.2.2
theorem rm:Ut Mm VL dK Mb dC Qc OG Rs H4 En GE Ft Ug pS bd Wk fu aF dk bI:=fun hh hc S hI g3 c fD fC bD bC f5 e0 f4 hl hd q=>by
 have hy:(CQ Qc Mb GE).kindOf Rs=some .local:=iF hc.oy;refine iC rfl (fun n s'=>∃i,n+i=En.length∧i≤En.length∧St Mb dC Mm s'.heap∧Kp [GE,Ft,H4] VL s'∧Bp VL.heap s'.heap∧ID w GE Ft Mm s' (Ug++En.take i)∧Bo w Mm s'.heap H4 (.tup En) i)
  (fun n s' e6=>AX e6 fun i f3=>Bs f3 fun hn hi S' g0=>Bs g0 fun kp tk c' it=>?_) En.length ⟨0,!Ej (A9 _) (A9 _),!Bc _,S,⟨fun zz zz zz e=>e,rfl,rfl⟩,fun zz zz zz zz e zz zz=>e,by simpa using c,hI⟩
 show AR _ dK ((TU (FI OG Rs bd Wk fu aF dk Qc bI) 1 (.ref H4) (.ref Ft) (CQ Qc Mb GE)).onRaise (fun OG=>do Nh OG _;iD OG)) _ _ s'
 refine wpAny_noted ?_;rw[yR];have hf:=it.fields;refine AE (EJ (AE (AT (Bo.next (target:=.Name Rs Wk) (r:=En[i]?) (E:=fun zz zz=>False) S'.g it hh rfl trivial) (fun o e7 c2=>?_) fun zz zz e=>DL e)))
 have f0:=S'.ownfx hf;have b4:∀b∈(BH.tup En).own H4,hb.get? b=none:=fun b m=>by rw[Aq.mp m];exact g3
 have c4:∀{s₁ s₂:AQ},Kp ((BH.tup En).own H4) s₁ s₂→Kp [GE,Ft,H4] s₁ s₂:=fun k=>⟨fun b o a7 e=>k.k b o (fun m=>a7 (by rw[Aq.mp m];simp)) e,k.gens,k.os⟩;have b3:∀{s₁ s₂ c6:AQ},Kp [GE,Ft,H4] s₁ s₂→Kp [GE,Ft,H4] s₂ c6→Kp [GE,Ft,H4] s₁ c6:=fun k1 k2=>⟨fun b o a7 e=>k2.k b o a7 (k1.k b o a7 e),k2.gens.trans k1.gens,k2.os.trans k1.os⟩;have c1:∀{h₁ c8 c3:A3},Bp h₁ c8→Bp c8 c3→Bp h₁ c3:=fun t1 t2 a o items n e c d=>t2 a o items n (t1 a o items n e c d) c d;cases o with
 |none=>
  refine AL c2 fun e a3=>?_;have g2:En.length≤i:=GV.mp e;refine AL (S'.g.kp a3 (fun b m=>(hf b m).1) (fun b m=>⟨b4 b m,(hf b m).2⟩)) fun h2 b0=>?_;have e8:=S'.kp a3 f0 (fun b m=>⟨b4 b m,(hf b m).2⟩);rw[Ig g2]at c';exact Ad (q e7 e8 (b3 kp (c4 a3)) (c1 tk b0) (c'.kp a3 b0 (by simpa[BH.own]using e0) (by simpa[BH.own]using f4)))
 |some v=>
  refine AE (AT c2 (fun zz a0 g1=>NU g1 fun av e rx b5 a6=>?_) fun zz zz e=>DL e);refine AL (S'.g.kp a6 (fun b m=>(hf b m).1) (fun b m=>⟨b4 b m,(hf b m).2⟩)) fun h3 b2=>?_;have c9:=S'.kp a6 f0 (fun b m=>⟨b4 b m,(hf b m).2⟩);have a1:=c'.kp a6 b2 (by simpa[BH.own]using e0) (by simpa[BH.own]using f4);refine AX a1.ns fun h1 b1=>?_;refine AE (Py (Xb hy b1 (fun a2 a9 b7=>?_) (by simp[Lp,Gx,hc.kind])));have kC:Kp [GE] a0 {a0 with heap:=a2,toks:=a0.toks+1}:=⟨fun b o hb e=>b7.extBut b o (fun h=>hb (Aq.mpr h)) e,rfl,rfl⟩;have e9:∀b∈[GE],fx Mb Mm b=none:=fun b m=>by rw[Aq.mp m];exact JR a1.nC fC
  have e2:NT a0.heap GE∧∀o,a0.heap.get? GE=some o→∀En,o.data≠.fields En:=by
   refine O0 b1 fun o es ep ho hd zz=>?_;exact⟨⟨o,ho,fun⟨_,_,_,d⟩=>!(nomatch ((hd.symm.trans d)))⟩,fun o' e En d=>by obtain rfl:=An ((ho.symm.trans e));exact(nomatch ((hd.symm.trans d)))⟩
  have e5:∀b∈[GE],hb.get? b=none∧NT a0.heap b:=fun b m=>by rw[Aq.mp m];exact⟨bC,e2.1⟩
  refine AL (c9.g.kn kC (fun b m=>(IL (e9 b m)).1) e5) fun g9 a4=>?_;have c5:=c9.kn kC e9 e5;have d4:=b5.kn kC a4 (fun b m=>by rw[Aq.mp m];exact e2.2) trivial;have d1:=rx.mono a4;refine AE (AE (NY (Lj (by simp[Lp,Gx,hc.kind]) hy a9 (if_pos rfl) ?_) hd));refine GC a1.pl fun vs n' el rs=>?_;have a8:a2.get? Ft=some _:=kC.k _ _ (by simpa using f5) el;refine AE (Xl ⟨n',a8⟩ (fun f2 d2 b6=>?_) ?_)
  ·have kD:Kp [Ft] {a0 with heap:=a2,toks:=a0.toks+1} {a0 with heap:=f2,toks:=a0.toks+1}:=⟨fun b o hb e=>b6.extBut b o (fun h=>hb (by simp[h])) e,rfl,rfl⟩;have e4:∀b∈[Ft],fx Mb Mm b=none:=fun b m=>by rw[Aq.mp m];exact JR a1.nD fD
   have f1:NT a2 Ft∧∀o,a2.get? Ft=some o→∀En,o.data≠.fields En:=⟨⟨_,a8,fun⟨q,_⟩=>by simp at q⟩,fun o' e' En d=>by obtain rfl:=An ((a8.symm.trans e'));exact nomatch d⟩;have d6:∀b∈[Ft],hb.get? b=none∧NT ({a0 with heap:=a2,toks:=a0.toks+1}:AQ).heap b:=fun b m=>by rw[Aq.mp m];exact⟨bD,f1.1⟩
   refine AL (c5.g.kn kD (fun b m=>(IL (e4 b m)).1) d6) fun h0 a5=>?_;have e3:=c5.kn kD e4 d6;have d5:=d4.kn kD a5 (fun b m=>by rw[Aq.mp m];exact f1.2) trivial;have d3:=(BX.mp e).1;refine Ad (Ad ⟨rfl,n-1,!Zr hn d3,i+1,!cG hn d3,!d3,e3,b3 kp (b3 (c4 a6) (b3 ⟨fun b o a7 e=>kC.k b o (fun m=>a7 (by rw[Aq.mp m];exact Dg)) e,rfl,rfl⟩ ⟨fun b o a7 e=>kD.k b o (fun m=>a7 (by rw[Aq.mp m];simp)) e,rfl,rfl⟩)),
    c1 tk (c1 b2 (c1 a4 a5)),⟨a1.nD,a1.nC,⟨vs.push v,d2,?_⟩,?_⟩,d5⟩)
   ·rw[QF,Gy,e,←YD];exact((rs.mono a4).mono a5).append (.one (d1.mono a5))
   ·refine Kv a9 fun o es ep ho r=>?_;exact⟨_,o,es,ep,kD.k _ _ (by simpa using Ne.symm f5) ho,r⟩
  ·have e1:(Ug++En.take i).length=vs.size:=rs.length.trans Gs;rw[BJ,Nv]at e1;rw[CG];have:vs.size≤1000000:=by exact je hl e1
   exact AK this ⋯
theorem wY{σ s A env ρ scope x y I xs C D ys R px py p1 p2 m n}:Ut σ s A env ρ scope x y I xs C D ys R px py p1 p2 m n:=@zF _ bZ _ @rm (((((σ,s),A),(env,ρ)),(((scope,x),y),(I,xs))),((((C,D),ys),(R,px)),(((py,p1),p2),(m,n))))
theorem Bo.kq(it:Bo w τ s.heap I a1 i)(k:Kp a2 s s')(tk:Bp s.heap s'.heap)(a0:∀b∈a1.own I,b∉a2)(ho:a1.open_):Bo w τ s'.heap I a1 i:=by
 cases a1 with
 |list l=>refine LD it fun n o e c d=>?_;exact⟨n,o,k.k _ _ (a0 I (!Dg)) e,c,d⟩
 |tup xs=>refine Sb it fun n t items m nt o e c d et rs=>?_;exact⟨n,t,items,m,nt,⟨o,k.k _ _ (a0 I (!Dg)) e,c,d⟩,tk _ _ _ _ et rfl rfl,rs.mono tk⟩
 |range a m=>exact⟨it.1,k.k _ _ (a0 I (!Dg)) it.2⟩
 |enum l j=>refine RY it fun n n2 ne a3 e o e2 c d=>?_;exact⟨n,n2,ne,⟨a3,k.k _ _ (a0 I (!Dg)) e⟩,o,k.k _ _ (a0 j (by simp[BH.own])) e2,c,d⟩
 |vals d xs=>exact ho.elim
 |chars y=>refine MY it fun n t o e c d=>?_;exact⟨n,t,o,k.k _ _ (a0 I (!Dg)) e,c,d⟩
theorem wq
  (h0:FA (Ae pg w) A (.compLoop (FI x y px py p1 p2 m scope a0) 1 it a1 env) R s)
  (h:AR (Ae pg w) A (Ng it) (fun n s'=>FA (Ae pg w) A (.compLoop (FI x y px py p1 p2 m scope a0) 1 n a1 env) R s') (notedBy (Ae pg w) A env fun x s'=>R (.error x) s') s):
  FA (Ae pg w) A (.compStart (FI x y px py p1 p2 m scope a0) 1 it a1 env) R s:=by
 refine Ti ?_;show AR _ _ ((compStart (FI x y px py p1 p2 m scope a0) 1 it a1 env).onRaise (fun x=>do Nh x env;Ck theWindowsPlace)) _ _ s
 refine wpAny_notedAt ?_;unfold compStart;show AR _ _ (ask>>=_) _ _ s;refine AE (KV (wpAny_ite ?_));split
 ·first
   |exact AE (Ad (Ad (And.intro rfl h0)))
   |exact Ad (And.intro rfl h0)
 ·first
   |exact AE (Lv (AE (EJ (AE (AT h (fun n s' h'=>Ad (And.intro rfl h')) fun zz zz x=>x)))))
   |(refine AE (Lv ?_);show AR _ _ (Ck p2>>=_) _ _ s;exact AE (EJ (AE (AT h (fun n s' h'=>Ad (And.intro rfl h')) fun zz zz x=>x))))
def Vr(σ:AA)(A:Ab)(env:Af)(ρ:AW)(n:L7)(x:Str)(px:A8)(Φ:AV→AA→Prop)(scope:C1)(y:Str)(py:A8)(p1:A8)(p2:A8)(a2:A8):Prop:=∀(hh:A.handled=none)(k:BQ A env n ρ σ fun a0 m=>Hp a0 (.Name x px)∧a0.open_∧∃a1:List (List AV),a0.has m (a1.map .tup)∧a1.flatten.length≤1000000∧∀D,m D=none→hb.get? D=none→Φ (.ref D) (upd m D (.list a1.flatten)))(a3:Q9 scope env x y=true)(a5:(x==("__debug__":Str))=false)(a4:(y==("__debug__":Str))=false)(hs:autoParam (∀x,Gw n env x=pure x) aI),EV A env (FI x y px py p1 p2 n scope a2) ρ σ Φ
def b8:(((AA×Ab)×(Af×AW))×((L7×Str)×A8))×((((AV→AA→Prop)×C1)×(Str×A8))×((A8×A8)×A8))→Prop:=fun t=>Vr t.1.1.1.1 t.1.1.1.2 t.1.1.2.1 t.1.1.2.2 t.1.2.1.1 t.1.2.1.2 t.1.2.2 t.2.1.1.1 t.2.1.1.2 t.2.1.2.1 t.2.1.2.2 t.2.2.1.1 t.2.2.1.2 t.2.2.2
def Fo:=zE b8 (((((fun _=>none),{}),(Bk,(fun _=>none))),((Bk,Bk),Bk)),((((fun _ _=>True),Bk),(Bk,Bk)),((Bk,Bk),Bk)))
def Mz:=Fo.1.1.1.1
def Oi:=Fo.1.1.1.2
def Hn:=Fo.1.1.2.1
def OM:=Fo.1.1.2.2
def Qv:=Fo.1.2.1.1
def JC:=Fo.1.2.1.2
def N8:=Fo.1.2.2
def ZL:=Fo.2.1.1.1
def KC:=Fo.2.1.1.2
def Mw:=Fo.2.1.2.1
def Sg:=Fo.2.1.2.2
def Q8:=Fo.2.2.1.1
def QY:=Fo.2.2.1.2
def Qf:=Fo.2.2.2
theorem pO:Vr Mz Oi Hn OM Qv JC N8 ZL KC Mw Sg Q8 QY Qf:=fun hh k l8 m5 l6 hs=>fun s S=>by
 have c:=lV l8;show AR _ _ _ _ _ _;rw[eval_ListComp];refine iE rfl hs (WZ fun p hp e=>absurd e (c.free p hp)) c.kind (fun Mw hy e=>OR c.nd (by rw[←e];exact hy)) (AT (k s S) (fun v s₁ h₁=>AT h₁ (fun it s₂ l3=>Jb l3 fun I c2 a0 e1 k1 f5 g t k5=>BN k5 fun ht ho h5=>B2 h5 fun a4 k9 hN fin=>?_) fun zz zz e=>e) fun zz zz e=>e);subst e1;have e7:St Hn OM a0 s₂.heap:=S.step g t;have d5:=Oh S.g f5;refine Ni (wpAny_newFunctionEnv c.cell (by intro Mw hy;simp at hy) (fun h₁ a9 a6=>?_) c.kind) (by show([]:List Value).toArray.size≤Nj;rw[CG];exact Bc _);dsimp only at a9 a6 ⊢;generalize g3:s₂.heap.push {cls:=.type "list",dict:=none,data:=.seq ([]:List Value).toArray}=H2 at a9 a6 ⊢;have hC:H2.objs.size=s₂.heap.objs.size+1:=by rw[←g3,Jk]
 have g9:∀b o,s₂.heap.get? b=some o→b≠H2.objs.size∧b≠s₂.heap.objs.size:=fun b o e=>by
  have hb:=DJ e;exact⟨by rw[hC];exact Bm (Hx hb),Bm hb⟩
 have c4:∀b o,s₂.heap.get? b=some o→h₁.get? b=some o:=fun b o e=>a6.extBut b o (g9 b o e).1 (BC _ (g3▸BC _ e));have d6:s₂.heap.objs.size≠H2.objs.size:=by rw[hC];exact Bm (Nk _)
 have h8:h₁.PlainList s₂.heap.objs.size #[]:=⟨_,a6.extBut _ _ d6 (BC _ (g3▸Bz _ rfl))⟩;have b4:∀a,s₂.heap.objs.size≤a→s₂.heap.get? a=none:=fun a ha=>Ie ha;have c3:∀a,s₂.heap.get? a=none→a0 a=none:=fun a=>g.none1;have d4:∀a,s₂.heap.get? a=none→hb.get? a=none:=fun a=>g.noneb;have e4:∀a,s₂.heap.get? a=none→a∉fp Hn:=fun a=>e7.nofp;have a5:∀a,s₂.heap.get? a=none→a∉c2.own I:=fun a=>k1.noown;have f3:∀l:List AB,c2.off l:=fun l=>by
  cases c2<;>first|exact trivial|exact ho.elim
 have eD:=b4 s₂.heap.objs.size (A9 _);have eC:=b4 H2.objs.size (by rw[hC];exact Gv _);generalize s₂.heap.objs.size=D at*;generalize H2.objs.size=C at*;have g2:Bp s₂.heap h₁:=fun a o zz zz e zz zz=>c4 a o e;have kk:∀a3:AQ,a3={s₂ with heap:=h₁,toks:=s₂.toks+([]:List (Str×Value)).length}→Ar a0 s₂ a0 a3:=fun a3 e=>by subst e;exact .keeps c4 rfl rfl
 have h0:St Hn OM a0 h₁:=e7.step (s':={s₂ with heap:=h₁}) (g.keeps c4) (.keeps c4 rfl rfl);have b2:∀a3:AQ,a3={s₂ with heap:=h₁,toks:=s₂.toks+([]:List (Str×Value)).length}→ID w C D a0 a3 []∧Bo w a0 a3.heap I c2 0:=fun a3 e=>by
  subst e;exact⟨⟨c3 _ eD,c3 _ eC,⟨#[],h8,.nil⟩,_,a9⟩,k1.step (s':={s₂ with heap:=h₁}) (.keeps c4 rfl rfl) g2⟩
 have hx:(CQ KC Hn C).kindOf JC=some .local:=iF c.ox;have h4:EW Mz s D:=t.fresh eD;have g0:EW Mz s C:=t.fresh eC;have bD:=d4 D eD;have bC:=d4 C eC;have fD:=e4 D eD;have fC:=e4 C eC;have e6:∀a3:AQ,a3={s₂ with heap:=h₁,toks:=s₂.toks+([]:List (Str×Value)).length}→
   FA (Ae pg w) Oi (.compLoop (FI JC Mw N8 Sg Q8 QY Qv KC Qf) 0 (.ref I) (.ref D) (CQ KC Hn C)) (QE (Ae pg w) Oi (fun zz zz=>False) none (PV Mz s ZL) (.ref D) C) a3:=by
  intro a3 b7;refine iC rfl (fun n s'=>∃i,n+i=a4.length∧i≤a4.length∧St Hn OM a0 s'.heap∧Ar Mz s a0 s'∧ID w C D a0 s' (a4.take i).flatten∧Bo w a0 s'.heap I c2 i) (fun n s' k2=>AX k2 fun i l5=>Bs l5 fun hn hi S' h1=>BN h1 fun t' c' it=>?_) a4.length
   ⟨0,!Ej (A9 _) (A9 _),!Bc _,(by subst b7;exact h0),t.trans (kk _ b7),by simpa using(b2 _ b7).1,(b2 _ b7).2⟩
  show AR _ Oi ((TU (FI JC Mw N8 Sg Q8 QY Qv KC Qf) 0 (.ref I) (.ref D) (CQ KC Hn C)).onRaise (fun JC=>do Nh JC _;iD JC)) _ _ s'
  refine wpAny_noted ?_;rw[zB];have hf:=it.fields;have k8:=S'.ownfx hf;have hr:=k9 i;refine AE (EJ (AE (AT (Bo.next (target:=.Name JC N8) (E:=fun zz zz=>False) S'.g it hh hr ht) (fun o d2 e3=>?_) fun zz zz e=>DL e)))
  have n1:∀{a b c:A3},Bp a b→Bp b c→Bp a c:=fun t1 t2 a o items n e c d=>t2 a o items n (t1 a o items n e c d) c d;cases o with
  |none=>
   refine AL e3 fun e kp=>?_;have m4:a4.length≤i:=by
    rw[CH]at e;cases z:a4[i]? with
    |none=>exact GV.mp z
    |some v=>rw[z]at e;cases e
   rw[Ig m4]at c';refine AL (S'.g.kp kp (fun b m=>(hf b m).1) (fun b m=>⟨d5 b m,(hf b m).2⟩)) fun m9 f1=>?_;have k6:=S'.kp kp k8 (fun b m=>⟨d5 b m,(hf b m).2⟩);have b6:=c'.kp kp f1 (a5 D eD) (a5 C eC);refine GC b6.pl fun vs n' el rs=>?_;have oD:Eb w d2.heap D (.list a4.flatten):=⟨vs,n',el,rs⟩;have c1:=k6.adopt bD fD oD;refine AX b6.ns fun m hn=>?_;refine Ad ?_;show QE _ _ _ _ _ _ _ _ _;refine⟨m,hn,fun h' l7=>?_⟩;have kC:Kp [C] d2 {d2 with heap:=h'}:=⟨fun b o hb e=>l7.extBut b o (fun h=>hb (Aq.mpr h)) e,rfl,rfl⟩;refine AL (c1.g.kn kC (fun b m=>by rw[Aq.mp m,Av _ _ (Ne.symm d6)];exact b6.nC) (fun b m=>by rw[Aq.mp m];exact⟨bC,Qi hn⟩)) fun a7 a8=>?_;exact⟨.ref D,upd a0 D (.list a4.flatten),.ref _,a7,kC.stp ((kp.stp t' f5).adopt h4) (fun b m=>by rw[Aq.mp m];exact g0),fin D b6.nD bD⟩
  |some v=>
   refine AE (AT e3 (fun zz a1 z=>NU z fun av e rx e0 kp=>?_) fun zz zz e=>DL e);obtain⟨xs,k4,rfl⟩:∃xs,a4[i]? =some xs∧av=.tup xs:=by
    rw[CH]at e;cases z:a4[i]? with
    |none=>rw[z]at e;cases e
    |some v=>rw[z]at e;exact⟨v,rfl,(An e).symm⟩
   refine AL (S'.g.kp kp (fun b m=>(hf b m).1) (fun b m=>⟨d5 b m,(hf b m).2⟩)) fun n0 g1=>?_;have c1:=S'.kp kp k8 (fun b m=>⟨d5 b m,(hf b m).2⟩);have b0:=c'.kp kp g1 (a5 D eD) (a5 C eC);have l0:=kp.stp t' f5;refine AX b0.ns fun m8 c8=>?_;refine AE (Py (Xb hx c8 (fun a2 b5 e2=>?_) (by simp[Lp,Gx,c.kind])));have kC:Kp [C] a1 {a1 with heap:=a2,toks:=a1.toks+1}:=⟨fun b o hb e=>e2.extBut b o (fun h=>hb (Aq.mpr h)) e,rfl,rfl⟩;have k7:∀b∈[C],fx Hn a0 b=none:=fun b m=>by rw[Aq.mp m];exact JR b0.nC fC
   have h9:NT a1.heap C∧∀o,a1.heap.get? C=some o→∀xs,o.data≠.fields xs:=by
    refine O0 c8 fun o es ep ho hd zz=>?_;exact⟨⟨o,ho,fun⟨_,_,_,d⟩=>!(nomatch ((hd.symm.trans d)))⟩,fun o' e xs d=>by obtain rfl:=An ((ho.symm.trans e));exact(nomatch ((hd.symm.trans d)))⟩
   have k3:∀b∈[C],hb.get? b=none∧NT a1.heap b:=fun b m=>by rw[Aq.mp m];exact⟨bC,h9.1⟩
   refine AL (c1.g.kn kC (fun b m=>(IL (k7 b m)).1) k3) fun a7 a8=>?_;have i2:=c1.kn kC k7 k3;have e8:=kC.stp l0 (fun b m=>by rw[Aq.mp m];exact g0);have d1:=e0.kn kC a8 (fun b m=>by rw[Aq.mp m];exact h9.2) (f3 _);have e9:=rx.mono a8;have c5:ID w C D a0 {a1 with heap:=a2,toks:=a1.toks+1} (a4.take i).flatten:=by
    refine GC b0.pl fun vs n' el rs=>?_;exact⟨b0.nD,b0.nC,⟨vs,⟨n',kC.k _ _ (by simpa using d6) el⟩,rs.mono a8⟩,_,b5⟩
   refine AE (NY (Lj (by simp[Lp,Gx,c.kind]) hx b5 (if_pos rfl) ?_) m5);refine AE (EJ (AE (Ad ?_)));refine Ja e9 fun a items e5 et rs=>?_;refine AE (CF (wpAny_pyIter_tuple ⟨_,et,rfl,e5,rfl⟩ ?_));have eJ:=GK a2;have h2:Bo w a0 ({a1 with heap:=a2.push {cls:=.type "tuple_iterator",data:=.fields #[.ref a,.int 0 0]},toks:=a1.toks+1}:AQ).heap a2.objs.size (.tup xs) 0:=
    ⟨a7.fresh.1,a,items,e5,a7.notTup et rfl rfl,⟨_,Bz _ rfl,rfl,rfl⟩,BC _ et,rs.mono fun zz zz zz zz q zz zz=>BC _ q⟩
   have bJ:=a7.fresh.2;have i0:=a7.push {cls:=.type "tuple_iterator",data:=.fields #[.ref a,.int 0 0]};have f0:Ar a0 {a1 with heap:=a2,toks:=a1.toks+1} a0 {a1 with heap:=a2.push {cls:=.type "tuple_iterator",data:=.fields #[.ref a,.int 0 0]},toks:=a1.toks+1}:=.push (s:={a1 with heap:=a2,toks:=a1.toks+1}) _;have m7:Kp [] {a1 with heap:=a2,toks:=a1.toks+1} {a1 with heap:=a2.push {cls:=.type "tuple_iterator",data:=.fields #[.ref a,.int 0 0]},toks:=a1.toks+1}:=⟨fun b o zz e=>BC _ e,rfl,rfl⟩;have c9:Bp a2 ({a1 with heap:=a2.push {cls:=.type "tuple_iterator",data:=.fields #[.ref a,.int 0 0]},toks:=a1.toks+1}:AQ).heap:=fun b o zz zz e zz zz=>BC _ e;have h3:=i2.step i0 f0;have f2:=d1.step f0 c9;have h7:=c5.kp m7 c9 (by simp) (by simp);have m0:EW Mz s a2.objs.size:=e8.fresh eJ;have m3:D≠a2.objs.size:=by
    refine GC c5.pl fun vs n' el zz=>?_;exact Bm (DJ el)
   have m1:C≠a2.objs.size:=by
    refine Jp c5.ns fun m o es ep ho zz=>?_;exact Bm (DJ ho)
   have m6:∀b∈c2.own I,b≠a2.objs.size:=fun b m=>by
    refine MU (d1.fields b m) fun zz o xs e zz=>?_;exact Bm (DJ e)
   generalize a2.objs.size=J at*;generalize({a1 with heap:=a2.push {cls:=.type "tuple_iterator",data:=.fields #[.ref a,.int 0 0]},toks:=a1.toks+1}:AQ)=s₇ at*;have i1:(a4.take (i+1)).flatten=(a4.take i).flatten++xs:=by rw[Gy,k4];simp
   have f4:=(BX.mp k4).1;have l4:(a4.take i).flatten.length+xs.length≤1000000:=by
    have e1:(a4.take (i+1)).flatten.length≤a4.flatten.length:=by
     conv=>rhs;rw[←List.take_append_drop (i+1) a4]
     rw[Ze0,BJ];exact Am jh
    rw[i1,BJ]at e1;exact AK e1 hN
   have run:FA (Ae pg w) Oi (.compLoop (FI JC Mw N8 Sg Q8 QY Qv KC Qf) 1 (.ref J) (.ref D) (CQ KC Hn C))
     (fun r s'=>match r with|.ok f=>St Hn OM a0 s'.heap∧Kp [C,D,J] s₇ s'∧Bp s₇.heap s'.heap∧ID w C D a0 s' (a4.take (i+1)).flatten|.error _=>False) s₇:=
    wY hh c h3 h2 bJ h7 fD fC bD bC d6 m3 m1 l4 l6 fun k0 c6 b3 b1 d3=>⟨c6,b3,b1,by rw[i1];exact d3⟩
   have h6:=wq run (S7 h2 run);refine AE (wpAny_runOwn (Nq h6 fun r k0 hr=>?_));cases r with
   |error e=>exact hr.elim
   |ok f=>
    refine Bs hr fun c6 b3 b1 d3=>?_;refine Ad ⟨rfl,n-1,!Zr hn f4,i+1,!cG hn f4,!f4,c6,b3.stp (e8.trans f0) (fun b m=>?_),d3,f2.kq b3 b1 (fun b m m2=>?_) ho⟩
    ·simp only[A7,HR,or_false]at m;rcases m with rfl|rfl|rfl
     ·exact g0
     ·exact h4
     ·exact m0
    ·simp only[A7,HR,or_false]at m2;rcases m2 with rfl|rfl|rfl
     ·exact a5 _ eC m
     ·exact a5 _ eD m
     ·exact m6 _ m rfl
 exact iG (e6 _ rfl) (S7 (b2 _ rfl).2 (e6 _ rfl))
theorem Zbz{σ A env ρ m x px Φ scope y py p1 p2 n}:Vr σ A env ρ m x px Φ scope y py p1 p2 n:=@zF _ b8 _ @pO ((((σ,A),(env,ρ)),((m,x),px)),(((Φ,scope),(y,py)),((p1,p2),n)))
end
set_option genInjectivity true
section
variable {σ σ' σ'' τ τ':AA} {A:Ab}
abbrev nats(ns:List Nat):List AV:=ns.map fun(n:Nat)=>.int n
abbrev Nd:=Str×List Nat
def Nd.key(n:Nd):List B5:=.str n.1::n.2.map fun(k:Nat)=>.int k
theorem La{m n:Nd}(e:m.key=n.key):m=n:=by
 obtain⟨a,xs⟩:=m;obtain⟨b,ys⟩:=n;unfold Nd.key at e;rw[QO]at e;obtain⟨e1,e2⟩:=e;cases e1;have:xs=ys:=by
  induction xs generalizing ys with
  |nil=>cases ys with|nil=>rfl|cons y ys=>simp at e2
  |cons x xs ih=>
   cases ys with
   |nil=>simp at e2
   |cons y ys=>
    simp only[CB,QO,B5.int.injEq]at e2;rw[ih ys e2.2,i6 e2.1]
 rw[this]
inductive Ch where
 |made (n:Nat)
 |known (k:Nd)
 |loose (kept many gone:Nat)
 |edge (kept many gone:Nat) (us:List Nat)
set_option genInjectivity false in
structure HS where
 nodes:List Nd
 nums:List (Nd×Nat)
 wts:List Int
 dps:List Int
 uab:List Nat
 lots:List (List Nat)
 merged:List (Nat×Nat)
 edges:List AV
 forest:List Nat
 known:List (Nd×Nat)
 abo:List (Nat×List Nat)
 waiting:List Nat
 changes:List Ch
 marks:List (Nat×List Nat)
 backs:Int
 made:Nat
inductive Slot where
 |hp|hdx|bk|bdx|un|udx
 |nodes|numbers|wts|dps
 |uab|ulots|ulot (i:Nat)|merged
 |edges|forest|known|above|abv (i:Nat)|waiting|changes|users (j:Nat)|marks|mark (j:Nat)
def Slot.ar(s:Slot):Nat:=@Slot.casesOn (fun m=>Nat) s 0 0 0 0 0 0 0 0 0 0 0 0 (fun i=>i) 0 0 0 0 0 (fun i=>i) 0 0 (fun i=>i) 0 (fun i=>i)
def Slot.of(n i:Nat):Slot:=[.hp,.hdx,.bk,.bdx,.un,.udx,.nodes,.numbers,.wts,.dps,.uab,.ulots,.ulot i,.merged,.edges,.forest,.known,.above,.abv i,.waiting,.changes,.users i,.marks,.mark i][n]?.getD .hp
theorem Slot.of_eq(s:Slot):Slot.of s.ctorIdx s.ar=s:=by cases s<;>rfl
def Slot.dq(a b:Slot):Decidable (a=b):=if h:a.ctorIdx=b.ctorIdx∧a.ar=b.ar then .isTrue ((Slot.of_eq a).symm.trans ((congr (congrArg Slot.of h.1) h.2).trans (Slot.of_eq b)))else .isFalse fun e=>h ⟨congrArg _ e,congrArg _ e⟩
abbrev AY:=Slot→AB
def AY.put(L:AY)(s:Slot)(a:AB):AY:=fun t=>@ite _ (t=s) (Slot.dq t s) a (L t)
@[simp]theorem GO(L:AY)(s:Slot)(a:AB):L.put s a s=a:=if_pos rfl
theorem Bd(L:AY)(a:AB)(h:t≠s):L.put s a t=L t:=if_neg h
def FD(L:AY)(j:Nat):Ch→AV
 |.made n=>.tup [.str "made",.int n]
 |.known k=>.tup [.str "known",Bw k.key]
 |.loose a0 many m=>.tup [.str "edge",.int a0,.int many,.int m,.ref (L (.users j))]
 |.edge a0 many m _=>.tup [.str "edge",.int a0,.int many,.int m,.ref (L (.users j))]
def DM(c:HS)(L:AY)(y:Str):Option AV:=
 if y="bank" then some (.ref (L .bk))else if y="unions" then some (.ref (L .un))else if y="edges" then some (.ref (L .edges))else if y="forest" then some (.ref (L .forest))
 else if y="known" then some (.ref (L .known))else if y="above" then some (.ref (L .above))else if y="waiting" then some (.ref (L .waiting))else if y="backs" then some (.int c.backs)
 else if y="changes" then some (.ref (L .changes))else if y="marks" then some (.ref (L .marks))else if y="made" then some (.int c.made)else none
def G7(L:AY)(y:Str):Option AV:=
 if y="nodes" then some (.ref (L .nodes))else if y="numbers" then some (.ref (L .numbers))else if y="weights" then some (.ref (L .wts))else if y="depths" then some (.ref (L .dps))else none
def JS(L:AY)(y:Str):Option AV:=
 if y="above" then some (.ref (L .uab))else if y="lots" then some (.ref (L .ulots))else if y="merged" then some (.ref (L .merged))else none
def Al(c:HS)(L:AY):Slot→Option AO
 |.hp=>some (.inst 460 (L .hdx))
 |.hdx=>some (.ns 11 (DM c L))
 |.bk=>some (.inst 174 (L .bdx))
 |.bdx=>some (.ns 4 (G7 L))
 |.un=>some (.inst 256 (L .udx))
 |.udx=>some (.ns 3 (JS L))
 |.nodes=>some (.list (c.nodes.map fun n=>Bw n.key))
 |.numbers=>some (.dictT (c.nums.map fun p=>(p.1.key,.int (p.2:Nat))))
 |.wts=>some (.list (BI c.wts))
 |.dps=>some (.list (BI c.dps))
 |.uab=>some (.list (nats c.uab))
 |.ulots=>some (.list ((B3 c.lots.length).map fun i=>.ref (L (.ulot i))))
 |.ulot i=>c.lots[i]?.map fun l=>.list (nats l)
 |.merged=>some (.list (c.merged.map fun p=>.tup [.int p.1,.int p.2]))
 |.edges=>some (.list c.edges)
 |.forest=>some (.list (nats c.forest))
 |.known=>some (.dictT (c.known.map fun p=>(p.1.key,.int p.2)))
 |.above=>some (.dictI (c.abo.map fun p=>((p.1:Int),.ref (L (.abv p.1)))))
 |.abv i=>(AH c.abo i).map fun l=>.list (nats l)
 |.waiting=>some (.list (nats c.waiting))
 |.changes=>some (.list (c.changes.zipIdx.map fun p=>FD L p.2 p.1))
 |.users j=>c.changes[j]?.bind fun ch=>match ch with|.edge _ _ _ m=>some (.list (nats m))|_=>none
 |.marks=>some (.list (c.marks.zipIdx.map fun p=>.tup [.int p.1.1,.ref (L (.mark p.2))]))
 |.mark j=>c.marks[j]?.map fun p=>.list (nats p.2)
structure AS(σ:AA)(L:AY)(c:HS):Prop where
 at_:∀s x,Al c L s=some x→σ (L s)=some x
 inj:∀s t,Al c L s≠none→Al c L t≠none→L s=L t→s=t
 n1:L .numbers≠1∧L .known≠1∧L .above≠1
def A6(c:HS)(L:AY)(a:AB):Prop:=∃s,Al c L s≠none∧L s=a
structure Fm(σ:AA)(c:HS)(L:AY)(σ':AA)(c':HS)(L':AY):Prop where
 keep:∀a,σ a≠none→¬A6 c L a→σ' a=σ a
 foot:∀a,A6 c' L' a→A6 c L a∨σ a=none
 root:L' .hp=L .hp
theorem Fm.refl(σ:AA)(c:HS)(L:AY):Fm σ c L σ c L:=⟨fun m m m=>rfl,fun m h=>.inl h,rfl⟩
theorem Fm.trans{c c' m:HS}{L L' a0:AY}(x:Fm σ c L σ' c' L')(y:Fm σ' c' L' σ'' m a0):Fm σ c L σ'' m a0:=by
 have out:∀a,σ a≠none→¬A6 c L a→¬A6 c' L' a:=fun a n f q=>(x.foot a q).elim f n;refine⟨fun a n f=>?_,fun a q=>?_,y.root.trans x.root⟩
 ·have e:=x.keep a n f;rw[y.keep a (by rw[e];exact n) (out a n f),e]
 ·rcases y.foot a q with h|h
  ·exact x.foot a h
  ·by_cases f:A6 c L a
   ·exact .inl f
   ·refine .inr ?_;cases z:σ a with
    |none=>rfl
    |some v=>rw[x.keep a (by rw[z];exact Ag _) f,z]at h;exact Bf h
variable {c c':HS} {L L':AY}
theorem AS.foot(R:AS σ L c)(h:A6 c L a):σ a≠none:=by
 refine AI h fun s hs m=>?_;subst m;refine AX (Ee.mp hs) fun x n=>?_;rw[R.at_ s x n];exact Ag _
theorem AS.upd(R:AS σ L c)(s₀:Slot)(h0:Al c L s₀≠none)(h:Al c' L s₀=some x)(hs:∀s,s≠s₀→∀y,Al c' L s=some y→Al c L s=some y):AS (Internal.upd σ (L s₀) x) L c':=by
 have m:∀s,Al c' L s≠none→Al c L s≠none:=fun s q=>by
  by_cases e:s=s₀
  ·rw[e];exact h0
  ·refine AX (Ee.mp q) fun y n=>?_;rw[hs s e y n];exact Ag _
 refine⟨fun s y n=>?_,fun s t a b e=>R.inj s t (m s a) (m t b) e,R.n1⟩;by_cases e:s=s₀
 ·subst e;obtain rfl:=An ((h.symm.trans n));exact Ao _ _ _
 ·have e1:=hs s e y n;rw[Av _ _ (fun q=>e (R.inj s s₀ (by rw[e1];exact Ag _) h0 q))];exact R.at_ s y e1
theorem AS.updFm(R:AS σ L c)(s₀:Slot)(h0:Al c L s₀≠none)(hs:∀s,Al c' L s≠none→Al c L s≠none):Fm σ c L (Internal.upd σ (L s₀) x) c' L:=
 ⟨fun a n f=>Av _ _ fun e=>f ⟨s₀,h0,e.symm⟩,fun a m=>AI m fun s q e=>.inl ⟨s,hs s q,e⟩,rfl⟩
theorem AS.beside(R:AS σ L c){a:AB}{x:AO}(n:σ a=none):AS (Internal.upd σ a x) L c:=
 ⟨fun s y m=>by rw[Av _ _ (fun e=>by have:=R.at_ s y m;rw[e,n]at this;exact Au this)];exact R.at_ s y m,R.inj,R.n1⟩
theorem Fm.beside{a:AB}{x:AO}(n:σ a=none):Fm σ c L (upd σ a x) c L:=⟨fun b h m=>Av _ _ fun e=>h (e▸n),fun m h=>.inl h,rfl⟩
theorem AS.out(R:AS σ L c)(n:σ a=none):¬A6 c L a:=fun h=>R.foot h n
theorem AS.other(R:AS σ L c)(k:∀a,A6 c L a→σ' a=σ a):AS σ' L c:=
 ⟨fun s y m=>by rw[k _ ⟨s,by rw[m];exact Ag _,rfl⟩];exact R.at_ s y m,R.inj,R.n1⟩
theorem AS.attach(R:AS σ L c)(s₀ s₁:Slot){a:AB}{x y:AO}(ha:σ a=some x)(na:¬A6 c L a)(h1:Al c L s₁≠none)(ne:s₁≠s₀)(e0:Al c' (L.put s₀ a) s₀=some x)(e1:Al c' (L.put s₀ a) s₁=some y)
  (hs:∀s,s≠s₀→s≠s₁→∀z,Al c' (L.put s₀ a) s=some z→Al c L s=some z)(hn:s₀≠.numbers∧s₀≠.known∧s₀≠.above):AS (Internal.upd σ (L s₁) y) (L.put s₀ a) c':=by
 have n:∀s,Al c L s≠none→L s≠a:=fun s q e=>na ⟨s,q,e⟩;have m:∀s,s≠s₀→Al c' (L.put s₀ a) s≠none→Al c L s≠none:=fun s q0 q=>by
  by_cases e:s=s₁
  ·rw[e];exact h1
  ·refine AX (Ee.mp q) fun z hz=>?_;rw[hs s q0 e z hz];exact Ag _
 refine⟨fun s z hz=>?_,fun s t p q e=>?_,?_⟩
 ·by_cases q0:s=s₀
  ·subst q0;obtain rfl:=An ((e0.symm.trans hz));rw[GO,Av _ _ (fun e=>n s₁ h1 e.symm)];exact ha
  ·rw[Bd _ _ q0];by_cases q1:s=s₁
   ·subst q1;obtain rfl:=An ((e1.symm.trans hz));exact Ao _ _ _
   ·have a0:=hs s q0 q1 z hz;rw[Av _ _ (fun e=>q1 (R.inj s s₁ (by rw[a0];exact Ag _) h1 e))];exact R.at_ s z a0
 ·by_cases s0:s=s₀<;>by_cases t0:t=s₀
  ·rw[s0,t0]
  ·exfalso;rw[s0,GO,Bd _ _ t0]at e;exact n t (m t t0 q) e.symm
  ·exfalso;rw[t0,GO,Bd _ _ s0]at e;exact n s (m s s0 p) e
  ·rw[Bd _ _ s0,Bd _ _ t0]at e;exact R.inj s t (m s s0 p) (m t t0 q) e
 ·rw[Bd _ _ (Ne.symm hn.1),Bd _ _ (Ne.symm hn.2.1),Bd _ _ (Ne.symm hn.2.2)];exact R.n1
theorem Zce(R:AS σ L c)(s₀ s₁:Slot){a:AB}{x y:AO}{τ:AA}(a0:Fm τ c L σ c L)(na:τ a=none)(h1:Al c L s₁≠none)(n0:s₀≠.hp)
  (hs:∀s,s≠s₀→Al c' (L.put s₀ a) s≠none→Al c L s≠none):Fm τ c L (Internal.upd σ (L s₁) y) c' (L.put s₀ a):=by
 refine⟨fun b n f=>?_,fun b m=>AI m fun s q e=>?_,Bd _ _ (Ne.symm n0)⟩
 ·rw[Av _ _ (fun e=>f ⟨s₁,h1,e.symm⟩)];exact a0.keep b n f
 ·by_cases s0:s=s₀
  ·subst s0;rw[GO]at e;exact .inr (e▸na)
  ·rw[Bd _ _ s0]at e;exact .inl ⟨s,hs s s0 q,e⟩
def Dy:HS:=⟨[],[],[],[],[],[],[],[],[],[],[],[],[],[],0,0⟩
end
set_option genInjectivity false
def an(w:AD):{fd:Aj // Ak w 67 fd}:=⟨_,⟨_,_,rfl⟩,∅⟩
def rE(w:AD):Aj:=(an w).1
theorem cX(w:AD):Ak w 67 (rE w):=(an w).2
def Zb(w:AD):{fd:Aj // Ak w 86 fd}:=⟨_,⟨_,_,rfl⟩,∅⟩
def sj(w:AD):Aj:=(Zb w).1
theorem oh(w:AD):Ak w 86 (sj w):=(Zb w).2
def dY(w:AD):{fd:Aj // Ak w 93 fd}:=⟨_,⟨_,_,rfl⟩,∅⟩
def jb(w:AD):Aj:=(dY w).1
theorem eY(w:AD):Ak w 93 (jb w):=(dY w).2
def ZN(w:AD):{fd:Aj // Ak w 98 fd}:=⟨_,⟨_,_,rfl⟩,∅⟩
def sZ(w:AD):Aj:=(ZN w).1
theorem Ql(w:AD):Ak w 98 (sZ w):=(ZN w).2
def Zf(w:AD):{fd:Aj // Ak w 105 fd}:=⟨_,⟨_,_,rfl⟩,∅⟩
def qk(w:AD):Aj:=(Zf w).1
theorem fY(w:AD):Ak w 105 (qk w):=(Zf w).2
def Uh(w:AD):{fd:Aj // Ak w 124 fd}:=⟨_,⟨_,_,rfl⟩,∅⟩
def dU(w:AD):Aj:=(Uh w).1
theorem vF(w:AD):Ak w 124 (dU w):=(Uh w).2
def gC(w:AD):{fd:Aj // Ak w 131 fd}:=⟨_,⟨_,_,rfl⟩,∅⟩
def nj(w:AD):Aj:=(gC w).1
theorem YU(w:AD):Ak w 131 (nj w):=(gC w).2
def Uj(w:AD):{fd:Aj // Ak w 138 fd}:=⟨_,⟨_,_,rfl⟩,∅⟩
def rK(w:AD):Aj:=(Uj w).1
theorem Y9(w:AD):Ak w 138 (rK w):=(Uj w).2
def ao(w:AD):{fd:Aj // Ak w 192 fd}:=⟨_,⟨_,_,rfl⟩,∅⟩
def zM(w:AD):Aj:=(ao w).1
theorem ql(w:AD):Ak w 192 (zM w):=(ao w).2
def cx(w:AD):{fd:Aj // Ak w 199 fd}:=⟨_,⟨_,_,rfl⟩,∅⟩
def Zab(w:AD):Aj:=(cx w).1
theorem aQ(w:AD):Ak w 199 (Zab w):=(cx w).2
def ZF(w:AD):{fd:Aj // Ak w 206 fd}:=⟨_,⟨_,_,rfl⟩,∅⟩
def vP(w:AD):Aj:=(ZF w).1
theorem U6(w:AD):Ak w 206 (vP w):=(ZF w).2
def d8(w:AD):{fd:Aj // Ak w 213 fd}:=⟨_,⟨_,_,rfl⟩,∅⟩
def V6(w:AD):Aj:=(d8 w).1
theorem PF(w:AD):Ak w 213 (V6 w):=(d8 w).2
def di(w:AD):{fd:Aj // Ak w 220 fd}:=⟨_,⟨_,_,rfl⟩,∅⟩
def oF(w:AD):Aj:=(di w).1
theorem cr(w:AD):Ak w 220 (oF w):=(di w).2
def aA(w:AD):{fd:Aj // Ak w 227 fd}:=⟨_,⟨_,_,rfl⟩,∅⟩
def qP(w:AD):Aj:=(aA w).1
theorem cn(w:AD):Ak w 227 (qP w):=(aA w).2
def cq(w:AD):{fd:Aj // Ak w 232 fd}:=⟨_,⟨_,_,rfl⟩,∅⟩
def xz(w:AD):Aj:=(cq w).1
theorem bB(w:AD):Ak w 232 (xz w):=(cq w).2
def dz(w:AD):{fd:Aj // Ak w 246 fd}:=⟨_,⟨_,_,rfl⟩,∅⟩
def Uw(w:AD):Aj:=(dz w).1
theorem fB(w:AD):Ak w 246 (Uw w):=(dz w).2
def WU(w:AD):{fd:Aj // Ak w 253 fd}:=⟨_,⟨_,_,rfl⟩,∅⟩
def wQ(w:AD):Aj:=(WU w).1
theorem u7(w:AD):Ak w 253 (wQ w):=(WU w).2
def cb(w:AD):{fd:Aj // Ak w 274 fd}:=⟨_,⟨_,_,rfl⟩,∅⟩
def t9(w:AD):Aj:=(cb w).1
theorem zi(w:AD):Ak w 274 (t9 w):=(cb w).2
def Zc(w:AD):{fd:Aj // Ak w 281 fd}:=⟨_,⟨_,_,rfl⟩,∅⟩
def kF(w:AD):Aj:=(Zc w).1
theorem MH(w:AD):Ak w 281 (kF w):=(Zc w).2
def Rv(w:AD):{fd:Aj // Ak w 286 fd}:=⟨_,⟨_,_,rfl⟩,∅⟩
def j2(w:AD):Aj:=(Rv w).1
theorem kb(w:AD):Ak w 286 (j2 w):=(Rv w).2
def Zh(w:AD):{fd:Aj // Ak w 291 fd}:=⟨_,⟨_,_,rfl⟩,∅⟩
def uZ(w:AD):Aj:=(Zh w).1
theorem SQ(w:AD):Ak w 291 (uZ w):=(Zh w).2
def ZC(w:AD):{fd:Aj // Ak w 296 fd}:=⟨_,⟨_,_,rfl⟩,∅⟩
def pR(w:AD):Aj:=(ZC w).1
theorem cB(w:AD):Ak w 296 (pR w):=(ZC w).2
def SR(w:AD):{fd:Aj // Ak w 303 fd}:=⟨_,⟨_,_,rfl⟩,∅⟩
def SU(w:AD):{fd:Aj // Ak w 310 fd}:=⟨_,⟨_,_,rfl⟩,∅⟩
def q7(w:AD):Aj:=(SU w).1
theorem Hb(w:AD):Ak w 310 (q7 w):=(SU w).2
def aa(w:AD):{fd:Aj // Ak w 317 fd}:=⟨_,⟨_,_,rfl⟩,∅⟩
def Zaq(w:AD):Aj:=(aa w).1
theorem bV(w:AD):Ak w 317 (Zaq w):=(aa w).2
def dr(w:AD):{fd:Aj // Ak w 324 fd}:=⟨_,⟨_,_,rfl⟩,∅⟩
def we(w:AD):Aj:=(dr w).1
theorem Ws(w:AD):Ak w 324 (we w):=(dr w).2
def Yj(w:AD):{fd:Aj // Ak w 331 fd}:=⟨_,⟨_,_,rfl⟩,∅⟩
def Za2(w:AD):Aj:=(Yj w).1
theorem lh(w:AD):Ak w 331 (Za2 w):=(Yj w).2
def ap(w:AD):{fd:Aj // Ak w 338 fd}:=⟨_,⟨_,_,rfl⟩,∅⟩
def rG(w:AD):Aj:=(ap w).1
theorem Pe(w:AD):Ak w 338 (rG w):=(ap w).2
def bm(w:AD):{fd:Aj // Ak w 352 fd}:=⟨_,⟨_,_,rfl⟩,∅⟩
def lJ(w:AD):Aj:=(bm w).1
theorem Os(w:AD):Ak w 352 (lJ w):=(bm w).2
def Y8(w:AD):{fd:Aj // Ak w 378 fd}:=⟨_,⟨_,_,rfl⟩,∅⟩
def j6(w:AD):Aj:=(Y8 w).1
theorem Yv(w:AD):Ak w 378 (j6 w):=(Y8 w).2
def ZZ(w:AD):{fd:Aj // Ak w 385 fd}:=⟨_,⟨_,_,rfl⟩,∅⟩
def xK(w:AD):Aj:=(ZZ w).1
theorem aV(w:AD):Ak w 385 (xK w):=(ZZ w).2
def fw(w:AD):{fd:Aj // Ak w 408 fd}:=⟨_,⟨_,_,rfl⟩,∅⟩
def bH(w:AD):Aj:=(fw w).1
theorem Zd(w:AD):Ak w 408 (bH w):=(fw w).2
def Yw(w:AD):{fd:Aj // Ak w 415 fd}:=⟨_,⟨_,_,rfl⟩,∅⟩
def Zat(w:AD):Aj:=(Yw w).1
theorem WQ(w:AD):Ak w 415 (Zat w):=(Yw w).2
def ax(w:AD):{fd:Aj // Ak w 422 fd}:=⟨_,⟨_,_,rfl⟩,∅⟩
def jN(w:AD):Aj:=(ax w).1
theorem UR(w:AD):Ak w 422 (jN w):=(ax w).2
def dX(w:AD):{fd:Aj // Ak w 429 fd}:=⟨_,⟨_,_,rfl⟩,∅⟩
def lM(w:AD):Aj:=(dX w).1
theorem Ow(w:AD):Ak w 429 (lM w):=(dX w).2
def GB(w:AD):{fd:Aj // Ak w 437 fd}:=⟨_,⟨_,_,rfl⟩,∅⟩
def ez(w:AD):Aj:=(GB w).1
theorem Z3(w:AD):Ak w 437 (ez w):=(GB w).2
def Vy(w:AD):{fd:Aj // Ak w 445 fd}:=⟨_,⟨_,_,rfl⟩,∅⟩
def Z6(w:AD):Aj:=(Vy w).1
theorem Wq(w:AD):Ak w 445 (Z6 w):=(Vy w).2
def We(w:AD):{fd:Aj // Ak w 450 fd}:=⟨_,⟨_,_,rfl⟩,∅⟩
def mQ(w:AD):Aj:=(We w).1
theorem xF(w:AD):Ak w 450 (mQ w):=(We w).2
def Zu(w:AD):{fd:Aj // Ak w 457 fd}:=⟨_,⟨_,_,rfl⟩,∅⟩
def ui(w:AD):Aj:=(Zu w).1
theorem Se(w:AD):Ak w 457 (ui w):=(Zu w).2
def fc(w:AD):{fd:Aj // Ak w 476 fd}:=⟨_,⟨_,_,rfl⟩,∅⟩
def nz(w:AD):Aj:=(fc w).1
theorem xO(w:AD):Ak w 476 (nz w):=(fc w).2
def f9(w:AD):{fd:Aj // Ak w 481 fd}:=⟨_,⟨_,_,rfl⟩,∅⟩
def jW(w:AD):Aj:=(f9 w).1
theorem Ms(w:AD):Ak w 481 (jW w):=(f9 w).2
def ee(w:AD):{fd:Aj // Ak w 488 fd}:=⟨_,⟨_,_,rfl⟩,∅⟩
def vd(w:AD):Aj:=(ee w).1
theorem Qs(w:AD):Ak w 488 (vd w):=(ee w).2
def ZA(w:AD):{fd:Aj // Ak w 493 fd}:=⟨_,⟨_,_,rfl⟩,∅⟩
def z9(w:AD):Aj:=(ZA w).1
theorem QW(w:AD):Ak w 493 (z9 w):=(ZA w).2
def be(w:AD):{fd:Aj // Ak w 528 fd}:=⟨_,⟨_,_,rfl⟩,∅⟩
def kU(w:AD):Aj:=(be w).1
theorem RW(w:AD):Ak w 528 (kU w):=(be w).2
def cJ(w:AD):{fd:Aj // Ak w 535 fd}:=⟨_,⟨_,_,rfl⟩,∅⟩
def wh(w:AD):Aj:=(cJ w).1
theorem YS(w:AD):Ak w 535 (wh w):=(cJ w).2
def dc(w:AD):{fd:Aj // Ak w 540 fd}:=⟨_,⟨_,_,rfl⟩,∅⟩
def jp(w:AD):Aj:=(dc w).1
theorem Um(w:AD):Ak w 540 (jp w):=(dc w).2
def fJ(w:AD):{fd:Aj // Ak w 545 fd}:=⟨_,⟨_,_,rfl⟩,∅⟩
def kH(w:AD):Aj:=(fJ w).1
theorem VU(w:AD):Ak w 545 (kH w):=(fJ w).2
def Yp(w:AD):{fd:Aj // Ak w 552 fd}:=⟨_,⟨_,_,rfl⟩,∅⟩
def si(w:AD):Aj:=(Yp w).1
theorem fh(w:AD):Ak w 552 (si w):=(Yp w).2
def dQ(w:AD):{fd:Aj // Ak w 557 fd}:=⟨_,⟨_,_,rfl⟩,∅⟩
def Og(w:AD):Aj:=(dQ w).1
theorem bP(w:AD):Ak w 557 (Og w):=(dQ w).2
def cF(w:AD):{fd:Aj // Ak w 562 fd}:=⟨_,⟨_,_,rfl⟩,∅⟩
def uy(w:AD):Aj:=(cF w).1
theorem Vf(w:AD):Ak w 562 (uy w):=(cF w).2
def aZ(w:AD):{fd:Aj // Ak w 567 fd}:=⟨_,⟨_,_,rfl⟩,∅⟩
def Jv(w:AD):Aj:=(aZ w).1
theorem uD(w:AD):Ak w 567 (Jv w):=(aZ w).2
def JK(w:AD):{fd:Aj // Ak w 37 fd}:=⟨_,⟨_,_,rfl⟩,∅⟩
theorem JI(w:AD):C7 w 174 "nodes":=⟨∅,∅,∅⟩
theorem wg(w:AD):DE w 174 "nodes":=⟨∅,∅,∅,∅⟩
theorem Om(w:AD):C7 w 174 "numbers":=⟨∅,∅,∅⟩
theorem Za3(w:AD):DE w 174 "numbers":=⟨∅,∅,∅,∅⟩
theorem U1(w:AD):C7 w 174 "weights":=⟨∅,∅,∅⟩
theorem yp(w:AD):DE w 174 "weights":=⟨∅,∅,∅,∅⟩
theorem UM(w:AD):C7 w 174 "depths":=⟨∅,∅,∅⟩
theorem yO(w:AD):DE w 174 "depths":=⟨∅,∅,∅,∅⟩
theorem Ha(w:AD):C7 w 256 "above":=⟨∅,∅,∅⟩
theorem rj(w:AD):DE w 256 "above":=⟨∅,∅,∅,∅⟩
theorem LJ(w:AD):C7 w 256 "lots":=⟨∅,∅,∅⟩
theorem uv(w:AD):DE w 256 "lots":=⟨∅,∅,∅,∅⟩
theorem OB(w:AD):C7 w 256 "merged":=⟨∅,∅,∅⟩
theorem zY(w:AD):DE w 256 "merged":=⟨∅,∅,∅,∅⟩
theorem Kr(w:AD):C7 w 460 "bank":=⟨∅,∅,∅⟩
theorem tA(w:AD):DE w 460 "bank":=⟨∅,∅,∅,∅⟩
theorem I6(w:AD):C7 w 460 "unions":=⟨∅,∅,∅⟩
theorem sD(w:AD):DE w 460 "unions":=⟨∅,∅,∅,∅⟩
theorem Ok(w:AD):C7 w 460 "edges":=⟨∅,∅,∅⟩
theorem vB(w:AD):DE w 460 "edges":=⟨∅,∅,∅,∅⟩
theorem VF(w:AD):C7 w 460 "forest":=⟨∅,∅,∅⟩
theorem zR(w:AD):DE w 460 "forest":=⟨∅,∅,∅,∅⟩
theorem SG(w:AD):C7 w 460 "known":=⟨∅,∅,∅⟩
theorem xr(w:AD):DE w 460 "known":=⟨∅,∅,∅,∅⟩
theorem Fn(w:AD):C7 w 460 "above":=⟨∅,∅,∅⟩
theorem oZ(w:AD):DE w 460 "above":=⟨∅,∅,∅,∅⟩
theorem Pa(w:AD):C7 w 460 "waiting":=⟨∅,∅,∅⟩
theorem aH(w:AD):DE w 460 "waiting":=⟨∅,∅,∅,∅⟩
theorem z7(w:AD):C7 w 460 "backs":=⟨∅,∅,∅⟩
theorem Z7(w:AD):DE w 460 "backs":=⟨∅,∅,∅,∅⟩
theorem Iu(w:AD):C7 w 460 "changes":=⟨∅,∅,∅⟩
theorem nY(w:AD):DE w 460 "changes":=⟨∅,∅,∅,∅⟩
theorem Sk(w:AD):C7 w 460 "marks":=⟨∅,∅,∅⟩
theorem wu(w:AD):DE w 460 "marks":=⟨∅,∅,∅,∅⟩
theorem uT(w:AD):C7 w 460 "made":=⟨∅,∅,∅⟩
theorem Vk(w:AD):DE w 460 "made":=⟨∅,∅,∅,∅⟩
theorem FX(w:AD):C7 w 517 "heap":=⟨∅,∅,∅⟩
theorem sx(w:AD):DE w 517 "heap":=⟨∅,∅,∅,∅⟩
theorem vz(w:AD):B1 w 174 "size" 93:=⟨∅,∅⟩
theorem dG(w:AD):B1 w 174 "take" 98:=⟨∅,∅⟩
theorem yf(w:AD):B1 w 174 "require" 105:=⟨∅,∅⟩
theorem yQ(w:AD):B1 w 174 "cut" 124:=⟨∅,∅⟩
theorem j3(w:AD):B1 w 174 "op" 131:=⟨∅,∅⟩
theorem Zo(w:AD):B1 w 174 "kids" 138:=⟨∅,∅⟩
theorem ur(w:AD):B1 w 256 "make" 199:=⟨∅,∅⟩
theorem bY(w:AD):B1 w 256 "size" 206:=⟨∅,∅⟩
theorem Rk(w:AD):B1 w 256 "find" 213:=⟨∅,∅⟩
theorem kJ(w:AD):B1 w 256 "merge" 220:=⟨∅,∅⟩
theorem uH(w:AD):B1 w 256 "members" 227:=⟨∅,∅⟩
theorem vt(w:AD):B1 w 256 "classes" 232:=⟨∅,∅⟩
theorem sU(w:AD):B1 w 256 "back" 246:=⟨∅,∅⟩
theorem zA(w:AD):B1 w 256 "cut" 253:=⟨∅,∅⟩
theorem Ov(w:AD):B1 w 460 "size" 281:=⟨∅,∅⟩
theorem Zt(w:AD):B1 w 460 "node" 286:=⟨∅,∅⟩
theorem cy(w:AD):B1 w 460 "add" 291:=⟨∅,∅⟩
theorem vn(w:AD):B1 w 460 "put" 296:=⟨∅,∅⟩
theorem G8(w:AD):B1 w 460 "find" 310:=⟨∅,∅⟩
theorem qS(w:AD):B1 w 460 "are_like" 317:=⟨∅,∅⟩
theorem fX(w:AD):B1 w 460 "merge" 324:=⟨∅,∅⟩
theorem Qe(w:AD):B1 w 460 "settle" 338:=⟨∅,∅⟩
theorem SX(w:AD):B1 w 460 "classes" 352:=⟨∅,∅⟩
theorem yZ(w:AD):B1 w 460 "seek" 378:=⟨∅,∅⟩
theorem jo(w:AD):B1 w 460 "users" 385:=⟨∅,∅⟩
theorem Z4(w:AD):B1 w 460 "depth" 415:=⟨∅,∅⟩
theorem cU(w:AD):B1 w 460 "push" 422:=⟨∅,∅⟩
theorem Sh(w:AD):B1 w 460 "pop" 429:=⟨∅,∅⟩
theorem ZV(w:AD):B1 w 460 "look_at" 437:=⟨∅,∅⟩
theorem Yn(w:AD):B1 w 460 "join" 445:=⟨∅,∅⟩
theorem qt(w:AD):B1 w 460 "unmake" 450:=⟨∅,∅⟩
theorem bL(w:AD):B1 w 460 "unjoin" 457:=⟨∅,∅⟩
theorem Ro(w:AD):B1 w 517 "tried" 481:=⟨∅,∅⟩
theorem Y6(w:AD):B1 w 517 "would" 488:=⟨∅,∅⟩
theorem ZE(w:AD):B1 w 517 "joined_by" 493:=⟨∅,∅⟩
theorem wS(w:AD):OQ w 174 86:=⟨∅,∅,∅⟩
theorem xc(w:AD):OQ w 256 192:=⟨∅,∅,∅⟩
theorem zg(w:AD):OQ w 460 408:=⟨∅,∅,∅⟩
theorem lF(w:AD):OQ w 517 476:=⟨∅,∅,∅⟩
section
variable {σ σ' σ'' τ τ':AA} {A:Ab} {env:Af} {ρ:AW} {c c':HS} {L L':AY}
theorem FK{x m:Str}{p a0:A8}{a C dx:AB}{n:Nat}{fs:Str→Option AV}{av:AV}{Φ:AV→AA→Prop}(B:Ai)(hx:ρ x=some (.ref a))(I:Dm σ a C dx n fs)(ok:C7 w C m)(hf:fs m=some av)(q:Φ av σ)
  (hk:autoParam (env.kindOf x=some .local) aR)(hv:MJ av:=by trivial)(a1:autoParam (env.scope.kind=.function) aR)(hd:autoParam ((x==("__debug__":Str))=false) aD)
  (he:autoParam (∀env,A0 (.Attribute (.Name x p) m a0) env=(do
   let o ←A0 (.Name x p) env
   Ck a0.atName
   let r ←CS [o] (Lm o m true)
   Ln (.Name x p) o r
   pure r)) aW):EV A env (.Attribute (.Name x p) m a0) ρ σ Φ:=
 Sw B (DC hx hk ⟨_,_,_,_,_,_,rfl,I,ok,hf,hv,q⟩ a1 hd) he
theorem gY{x m:Str}(B:Ai)(hx:ρ x=some (.ref a))(I:Dm σ a C dx n fs)(ok:C7 w C m)(hf:fs m=some av)(q:Φ av σ)
  (hk:autoParam (env.kindOf x=some .cell) aR)(hv:MJ av:=by trivial)(a1:autoParam (env.scope.kind=.function) aR)(hd:autoParam ((x==("__debug__":Str))=false) aD)
  (he:autoParam (∀env,A0 (.Attribute (.Name x p) m a0) env=(do
   let o ←A0 (.Name x p) env
   Ck a0.atName
   let r ←CS [o] (Lm o m true)
   Ln (.Name x p) o r
   pure r)) aW):EV A env (.Attribute (.Name x p) m a0) ρ σ Φ:=
 Sw B (EV.cell hx hk ⟨_,_,_,_,_,_,rfl,I,ok,hf,hv,q⟩ a1 hd) he
def Cf:Option FN→Bool
 |some .local=>true
 |some .cell=>true
 |_=>false
theorem AG{x:Str}{n:A8}{av:AV}{Φ:AV→AA→Prop}(hv:ρ x=some av)(q:Φ av σ)(m:autoParam (Cf (env.kindOf x)=true) aR)(hk:autoParam (env.scope.kind=.function) aR)(hd:autoParam ((x==("__debug__":Str))=false) aD):EV A env (.Name x n) ρ σ Φ:=by
 cases e:env.kindOf x with
 |none=>rw[e]at m;cases m
 |some k=>
  cases k<;>first|exact DC hv e q hk hd|exact EV.cell hv e q hk hd|(rw[e]at m;cases m)
def cH(env:Af)(x:Str):Bool:=env.kindOf x==some .local||(env.kindOf x==some .cell&&(env.cells.lookup x).isSome)
theorem A2{x:Str}{m:A8}{av:AV}{Φ:AW→AA→Prop}(q:Φ (put ρ x av) σ)(n:autoParam (cH env x=true) aR)(hk:autoParam (env.scope.kind=.function) aR):AP A env (Fh (.Name x m) env) av ρ σ Φ:=by
 unfold cH at n;rw[Bool.or_eq_true,Fg,beq_iff_eq,beq_iff_eq]at n;rcases n with h|⟨h,k⟩
 ·exact NG h q hk
 ·exact AP.cell h k q hk
theorem BM{x m:Str}(B:Ai)(hx:ρ x=some (.ref a))(I:Dm σ a C dx n fs)(ok:C7 w C m)(hf:fs m=some av)(q:Φ av σ)
  (hk:autoParam (Cf (env.kindOf x)=true) aR)(hv:MJ av:=by trivial)(a1:autoParam (env.scope.kind=.function) aR)(hd:autoParam ((x==("__debug__":Str))=false) aD)
  (he:autoParam (∀env,A0 (.Attribute (.Name x p) m a0) env=(do
   let o ←A0 (.Name x p) env
   Ck a0.atName
   let r ←CS [o] (Lm o m true)
   Ln (.Name x p) o r
   pure r)) aW):EV A env (.Attribute (.Name x p) m a0) ρ σ Φ:=
 Sw B (AG hx ⟨_,_,_,_,_,_,rfl,I,ok,hf,hv,q⟩ hk a1 hd) he
theorem HG{x m y:Str}{T id:String}(B:Ai)(hx:ρ x=some (.ref a))(I:Dm σ a C dx n fs)(ok:C7 w C m)(hf:fs m=some ov)(hy:ρ y=some iv)(hs:Hm σ ov T id)(q:AM A Ih ov iv σ Φ)
  (hk:autoParam (Cf (env.kindOf x)=true) aR)(a3:autoParam (Cf (env.kindOf y)=true) aR)(hv:MJ ov:=by trivial)(a0:autoParam (env.scope.kind=.function) aR)(hd:autoParam ((x==("__debug__":Str))=false) aD)(a2:autoParam ((y==("__debug__":Str))=false) aD)
  (he:autoParam (∀env,A0 (.Attribute (.Name x p) m a1) env=(do
   let o ←A0 (.Name x p) env
   Ck a1.atName
   let r ←CS [o] (Lm o m true)
   Ln (.Name x p) o r
   pure r)) aW):EV A env (.Subscript (.Attribute (.Name x p) m a1) (.Name y p3) p4) ρ σ Φ:=
 CR (BM B hx I ok hf (AG hy ⟨⟨T,id,hs⟩,q⟩ a3 a0 a2) hk hv a0 hd he)
abbrev ak(Φ:List AV→AA→Prop):AV→AA→Prop:=fun x σ=>Φ [x] σ
abbrev bO(A:Ab)(env:Af)(f:Expr)(ρ:AW)(Φ:List AV→AA→Prop):AV→AA→Prop:=fun x σ=>EV A env f ρ σ (ak (WY Φ x))
abbrev wB(A:Ab)(env:Af)(f g:Expr)(ρ:AW)(Φ:List AV→AA→Prop):AV→AA→Prop:=fun x σ=>EV A env f ρ σ (bO A env g ρ (WY Φ x))
theorem Aa(k:EV A env e ρ σ (ak Φ))(he:autoParam (∀env,BZ [e] env=(false,A0 e env)::BZ [] env) aI):AC A env n [e] ρ σ Φ:=
 .cons (k.mono fun x m q=>.nil q) he
theorem BW(k:EV A env e ρ σ (bO A env f ρ Φ))(he:autoParam (∀env,BZ [e,f] env=(false,A0 e env)::BZ [f] env) aI)
  (n:autoParam (∀env,BZ [f] env=(false,A0 f env)::BZ [] env) aI):AC A env a0 [e,f] ρ σ Φ:=
 .cons (k.mono fun x m q=>Aa q n) he
theorem GP(k:EV A env e ρ σ (wB A env f g ρ Φ))(he:autoParam (∀env,BZ [e,f,g] env=(false,A0 e env)::BZ [f,g] env) aI)
  (n:autoParam (∀env,BZ [f,g] env=(false,A0 f env)::BZ [g] env) aI)(hg:autoParam (∀env,BZ [g] env=(false,A0 g env)::BZ [] env) aI):AC A env a0 [e,f,g] ρ σ Φ:=
 .cons (k.mono fun x m q=>BW q n hg) he
theorem Bl{id:Str}(B:Ai)(e:Cj (KK w) Bh id=some none)(hv:Gr id=some (.builtin m))
  (k:AC A env a0 args ρ σ fun xs σ₂=>AF A (.builtin m) xs σ₂ Φ)(hx:autoParam (env.kindOf id=some .globalImplicit) aR)(hn:autoParam (id≠"__name__") aD)(hk:autoParam (env.scope.kind=.function) aR)(hg:autoParam (env.globals=Bh) aR)(n:autoParam (env.builtins=TH) aR)
  (hd:autoParam ((id==("__debug__":Str))=false) aD)(hp:autoParam (CJ args=true) aR):EV A env (.Call (.Name id p) args [] a0) ρ σ Φ:=
 LW B (Fd B e hv ⟨_,.bi _,k⟩ hn hx hk hg n hd) hp
theorem Ez{id:Str}(B:Ai)(e:Cj (KK w) Bh id=some none)(hv:Gr id=some (.type T))
  (k:AC A env n args ρ σ fun xs σ₂=>AF A (.type T) xs σ₂ Φ)(hx:autoParam (env.kindOf id=some .globalImplicit) aR)(hn:autoParam (id≠"__name__") aD)(hk:autoParam (env.scope.kind=.function) aR)(hg:autoParam (env.globals=Bh) aR)(m:autoParam (env.builtins=TH) aR)
  (hd:autoParam ((id==("__debug__":Str))=false) aD)(hp:autoParam (CJ args=true) aR):EV A env (.Call (.Name id p) args [] n) ρ σ Φ:=
 LW B (Fd B e hv ⟨_,.ty _,k⟩ hn hx hk hg m hd) hp
theorem CY{o:Expr}{a1 a0:A8}{args:List Expr}{name:Str}{id:String}{l:AB}{xs:List AV}{Φ:AV→AA→Prop}(a2:Nr "list" name id)(a4:Nc (.builtin id)=pure (.type "method_descriptor"))
  (k:EV A env o ρ σ fun ov m=>ov=.ref l∧m l=some (.list xs)∧AC A env a0 args ρ m fun ys σ₂=>AF A (.builtin id) (.ref l::ys) σ₂ Φ)(hp:autoParam (CJ args=true) aR)
  {pl:Sem Bool}(he:autoParam (A0 (.Call (.Attribute o name a1) args [] a0) env=(do
   let ov ←A0 o env
   Ck a1.atName
   let(f,first) ←CS [ov] (GT ov name pl)
   EK a0 f first (Df a0 (BZ args env)) (Hv a0 (Hw [] env)))) aR):
  EV A env (.Call (.Attribute o name a1) args [] a0) ρ σ Φ:=
 Sq Ze1 a2 a4 (k.mono fun ov m a3=>BN a3 fun e1 e2 q=>by
  subst e1;refine⟨fun s u g r=>?_,q⟩;obtain rfl:=VR.inv_ref r;refine Ci ((g.own _ _ e2).2) fun items n o zz=>?_;exact⟨⟨_,o,rfl⟩,fun a e=>by obtain rfl:=TQ e;exact⟨_,o,rfl⟩⟩) hp he
theorem CW(w:AD):Cj (KK w) Bh "len"=some none:=∅
theorem CV:Gr "len"=some (.builtin "len"):=∅
theorem Mq(w:AD):Cj (KK w) Bh "sorted"=some none:=∅
theorem MI:Gr "sorted"=some (.builtin "sorted"):=∅
theorem Ip(w:AD):Cj (KK w) Bh "range"=some none:=∅
theorem JM:Gr "range"=some (.type "range"):=∅
theorem WP(w:AD):Cj (KK w) Bh "max"=some none:=∅
theorem Wr:Gr "max"=some (.builtin "max"):=∅
theorem I3(w:AD):Cj (KK w) Bh "tuple"=some none:=∅
theorem JD:Gr "tuple"=some (.type "tuple"):=∅
theorem JW(w:AD):Cj (KK w) Bh "list"=some none:=∅
theorem It:Gr "list"=some (.type "list"):=∅
theorem Z0(w:AD):Cj (KK w) Bh "sum"=some none:=∅
theorem eA:Gr "sum"=some (.builtin "sum"):=∅
theorem AS.iU(R:AS σ L c):Dm σ (L .un) 256 (L .udx) 3 (JS L):=⟨R.at_ .un _ rfl,R.at_ .udx _ rfl⟩
theorem AS.iB(R:AS σ L c):Dm σ (L .bk) 174 (L .bdx) 4 (G7 L):=⟨R.at_ .bk _ rfl,R.at_ .bdx _ rfl⟩
theorem AS.iH(R:AS σ L c):Dm σ (L .hp) 460 (L .hdx) 11 (DM c L):=⟨R.at_ .hp _ rfl,R.at_ .hdx _ rfl⟩
theorem Hi:JS L "above"=some (.ref (L .uab)):=by rfl
theorem Ky:JS L "lots"=some (.ref (L .ulots)):=by rfl
theorem PP:JS L "merged"=some (.ref (L .merged)):=by rfl
def root(ab:List Nat)(a:Nat):Nat:=Nat.lt_wfRel.wf.fix (C:=fun _=>Nat) (fun a f=>if h:∃x,ab[a]? =some x∧x<a then f (ab[a]?.getD 0) (h.elim fun x p=>by rw[p.1];exact p.2)else a) a
theorem RL(ab:List Nat)(a:Nat):root ab a=if ∃x,ab[a]? =some x∧x<a then root ab (ab[a]?.getD 0)else a:=Nat.lt_wfRel.wf.fix_eq _ _
theorem LI{ab:List Nat}{a x:Nat}(e:ab[a]? =some x)(l:x<a):root ab a=root ab x:=by
 rw[RL,if_pos ⟨x,e,l⟩,e];rfl
theorem G5(e:ab[a]? =some a):root ab a=a:=by
 rw[RL,if_neg];rintro⟨x,m,l⟩;obtain rfl:=An ((e.symm.trans m));exact absurd l (EI _)
structure By(ab:List Nat):Prop where
 le:∀i x:Nat,ab[i]? =some x→x≤i
 sz:ab.length≤1000
theorem Jt(ab:List Nat):∀a,root ab a≤a:=fun a=>by
 induction a using YF with
 |ind a m=>
  rw[RL];split
  ·rename_i h;refine AI h fun x e l=>?_;rw[e];exact AK (m x l) (QC l)
  ·exact A9 _
theorem dR(U:By ab):∀{a},a<ab.length→ab[root ab a]? =some (root ab a):=fun{a}=>by
 induction a using YF with
 |ind a n=>
  intro m;have e:ab[a]? =some ab[a]:=Dq m;have hl:=U.le a _ e;by_cases h:ab[a]<a
  ·rw[LI e h];exact n _ h (!AK h (Ct m))
  ·have:ab[a]=a:=by exact Ej hl (EM h)
   rw[this]at e;rw[G5 e];exact e
theorem dw{i x:Nat}(e:ns[i]? =some x):(nats ns)[((i:Int)).toNat]? =some (.int (x:Nat)):=by
 show(ns.map _)[i]? =_;rw[CH,e];rfl
theorem Qz(B:Ai)(R:Ah A 1)(P:AS σ L c)(U:By c.uab)(ha:a<c.uab.length)(q:Φ (.int (root c.uab a:Nat)) σ):AF A (.ref 213) [.ref (L .un),.int a] σ Φ:=by
 refine AF.def (F:=(PF w)) (names:=["self","a"]) B R rfl (fun Lf=>?_) (C9 fun zz zz=>rfl) rfl ∅
 ·have e2:=P.at_ .uab _ rfl;refine AJ (LS (fun m ρ' σ'=>∃i:Nat,m=i∧i<c.uab.length∧σ'=σ∧ρ' "self"=some (.ref (L .un))∧ρ' "a"=some (.int i)∧root c.uab i=root c.uab a) a ⟨a,rfl,ha,rfl,by rfl,by rfl,rfl⟩ ?_);rintro m ρ' σ' ⟨i,rfl,hi,rfl,r1,r2,er⟩;have hx:c.uab[m]? =some c.uab[m]:=Dq hi;have n:=U.le m _ hx;have a4:=U.sz;have item:∀{a3 a2 a0 a1}{Φ},Φ (.int (c.uab[m]:Nat)) σ'→EV (A.deeper (BA (V6 w) Lf 213)) (BA (V6 w) Lf 213) (((YG "self" a3).Attribute "above" a2).Subscript (YG "a" a0) a1) ρ' σ' Φ:=fun q=>
   CR (FK B r1 P.iU (Ha w) Hi (DC r2 () ⟨⟨_,_,.list e2⟩,Eh e2 (!A5 o0) (dw hx) (!Am kh hi a4) q⟩))
  refine Bg (item (DC r2 () (NO (BO ?_))));by_cases h:c.uab[m]=m
  ·have:(not (decide (((c.uab[m]:Nat):Int)=(m:Int))))=false:=by simp[h]
   rw[this];simp only[HN,if_false];rw[h]at hx;rw[←er,G5 hx]at q;exact AJ (B8 (DC r2 () q))
  ·have:(not (decide (((c.uab[m]:Nat):Int)=(m:Int))))=true:=by simp;exact BS xS hi h
   refine CN this ?_;refine AJ (BR (item (NG () ?_)));refine Ax ⟨c.uab[m],!BS dO hi n h,c.uab[m],rfl,!AK (CD n) hi,rfl,?_,if_pos rfl,?_⟩
   ·show(if _ then _ else _)=_;rw[if_neg ⋯];exact r1
   ·rw[←er];exact(LI hx (!BS dO hi n h)).symm
theorem YX(B:Ai)(R:Ah A 1)(P:AS σ L c)(U:By c.uab)(q:Φ (.int (c.uab.length:Nat)) σ):AF A (.ref 206) [.ref (L .un)] σ Φ:=by
 refine AF.def (F:=(U6 w)) (names:=["self"]) B R rfl (fun Lf=>?_) (FG fun n=>rfl) rfl ∅
 ·have m:=U.sz;refine AJ (B8 (Bl B (CW w) CV (Aa (FK B () P.iU (Ha w) Hi (Ce (P.at_ .uab _ rfl) (by simp;exact ln m rfl) ?_)))))
  first|exact q|(rw[AU];exact q)
theorem rT(h:s≠.bk∧s≠.un∧s≠.edges∧s≠.forest∧s≠.known∧s≠.above∧s≠.waiting∧s≠.changes∧s≠.marks):DM c (L.put s a)=DM c L:=by
 refine Bs h fun h1 h2 h3 m=>Bs m fun h4 h5 h6 n=>BN n fun h7 h8 h9=>?_;funext y;unfold DM;rw[Bd _ _ h1.symm,Bd _ _ h2.symm,Bd _ _ h3.symm,Bd _ _ h4.symm,Bd _ _ h5.symm,Bd _ _ h6.symm,Bd _ _ h7.symm,Bd _ _ h8.symm,Bd _ _ h9.symm]
theorem mB(h:s≠.nodes∧s≠.numbers∧s≠.wts∧s≠.dps):G7 (L.put s a)=G7 L:=by
 refine Bs h fun h1 n h3 m=>?_;funext y;unfold G7;rw[Bd _ _ h1.symm,Bd _ _ n.symm,Bd _ _ h3.symm,Bd _ _ m.symm]
theorem wt(h:s≠.uab∧s≠.ulots∧s≠.merged):JS (L.put s a)=JS L:=by
 refine BN h fun h1 m n=>?_;funext y;unfold JS;rw[Bd _ _ h1.symm,Bd _ _ m.symm,Bd _ _ n.symm]
theorem rM(h:∀j,s≠.users j)(j:Nat)(ch:Ch):FD (L.put s a) j ch=FD L j ch:=by
 cases ch<;>first|rfl|(unfold FD;rw[Bd _ _ (h j).symm])
def GG:Slot→Option Slot
 |.ulot _=>some .ulots
 |.abv _=>some .above
 |.users _=>some .changes
 |.mark _=>some .marks
 |_=>none
theorem J8{s t u:Slot}(m:GG s=some t)(n:GG u=none):s≠u:=fun e=>Au (n.symm.trans ((congrArg GG e).symm.trans m))
theorem Zw{s t:Slot}(m:GG s=some t):t≠s:=fun e=>by
 have:∀s:Slot,GG s=some s→False:=fun s h=>by
  cases s<;>first|exact Au h|exact absurd (congrArg Slot.ctorIdx (An h)) (show ¬(11:Nat)=12 by decide)|exact absurd (congrArg Slot.ctorIdx (An h)) (show ¬(17:Nat)=18 by decide)|exact absurd (congrArg Slot.ctorIdx (An h)) (show ¬(20:Nat)=21 by decide)|exact absurd (congrArg Slot.ctorIdx (An h)) (show ¬(22:Nat)=23 by decide)
 exact this s (m.trans (congrArg some e))
theorem WA{s₀:Slot}{a:AB}{t:Slot}{m:Slot}(hf:GG s₀=some m)(ht:t≠m):Al c (L.put s₀ a) t=Al c L t:=by
 have n:∀u,GG u=none→u≠s₀:=fun u e q=>by rw[q,hf]at e;exact Bf e
 have P:∀u,GG u=none→L.put s₀ a u=L u:=fun u e=>Bd _ _ (n u e);have N:∀u,GG u=none→s₀≠u:=fun u e=>(n u e).symm;cases t<;>try rfl
 ·show some (AO.inst _ _)=some _;rw[P .hdx rfl]
 ·show some (AO.ns _ _)=some _;rw[rT ⟨N _ rfl,N _ rfl,N _ rfl,N _ rfl,N _ rfl,N _ rfl,N _ rfl,N _ rfl,N _ rfl⟩]
 ·show some (AO.inst _ _)=some _;rw[P .bdx rfl]
 ·show some (AO.ns _ _)=some _;rw[mB ⟨N _ rfl,N _ rfl,N _ rfl,N _ rfl⟩]
 ·show some (AO.inst _ _)=some _;rw[P .udx rfl]
 ·show some (AO.ns _ _)=some _;rw[wt ⟨N _ rfl,N _ rfl,N _ rfl⟩]
 ·show some (AO.list _)=some (AO.list _);have:∀i,L.put s₀ a (.ulot i)=L (.ulot i):=fun i=>Bd _ _ fun e=>by
   rw[←e]at hf;cases hf;exact ht rfl
  simp only[this]
 ·show some (AO.dictI _)=some (AO.dictI _);have:∀i,L.put s₀ a (.abv i)=L (.abv i):=fun i=>Bd _ _ fun e=>by
   rw[←e]at hf;cases hf;exact ht rfl
  simp only[this]
 ·show some (AO.list _)=some (AO.list _);have:∀j ch,FD (L.put s₀ a) j ch=FD L j ch:=fun j ch=>rM (fun i e=>by rw[e]at hf;cases hf;exact ht rfl) j ch;simp only[this]
 ·show some (AO.list _)=some (AO.list _);have:∀i,L.put s₀ a (.mark i)=L (.mark i):=fun i=>Bd _ _ fun e=>by
   rw[←e]at hf;cases hf;exact ht rfl
  simp only[this]
def GD{α:Type}(s t:Slot)(a b:α):α:=@ite _ (s=t) (Slot.dq s t) a b
def Yo(c x:HS)(s:Slot):HS:={c with nodes:=GD s .nodes x.nodes c.nodes,nums:=GD s .numbers x.nums c.nums,wts:=GD s .wts x.wts c.wts,dps:=GD s .dps x.dps c.dps,uab:=GD s .uab x.uab c.uab,merged:=GD s .merged x.merged c.merged,edges:=GD s .edges x.edges c.edges,forest:=GD s .forest x.forest c.forest,known:=GD s .known x.known c.known,waiting:=GD s .waiting x.waiting c.waiting,backs:=GD s .hdx x.backs c.backs,made:=GD s .hdx x.made c.made}
theorem G1{α:Type}{s t:Slot}{a b:α}(h:t≠s):GD s t a b=b:=if_neg (Ne.symm h)
theorem cs{c c':HS}{L:AY}{s:Slot}(h:c'=Yo c c' s):∀t,t≠s→∀y,Al c' L t=some y→Al c L t=some y:=fun t ht y m=>by
 have n:Al (Yo c c' s) L t=Al c L t:=by
  cases t<;>first|rfl|exact congrArg (fun x=>Al {c with nodes:=x} L .nodes) (G1 ht)|exact congrArg (fun x=>Al {c with nums:=x} L .numbers) (G1 ht)|exact congrArg (fun x=>Al {c with wts:=x} L .wts) (G1 ht)|exact congrArg (fun x=>Al {c with dps:=x} L .dps) (G1 ht)|exact congrArg (fun x=>Al {c with uab:=x} L .uab) (G1 ht)|exact congrArg (fun x=>Al {c with merged:=x} L .merged) (G1 ht)|exact congrArg (fun x=>Al {c with edges:=x} L .edges) (G1 ht)|exact congrArg (fun x=>Al {c with forest:=x} L .forest) (G1 ht)|exact congrArg (fun x=>Al {c with known:=x} L .known) (G1 ht)|exact congrArg (fun x=>Al {c with waiting:=x} L .waiting) (G1 ht)|exact(congrArg (fun x=>Al {c with backs:=x,made:=GD s .hdx c'.made c.made} L .hdx) (G1 ht)).trans (congrArg (fun x=>Al {c with made:=x} L .hdx) (G1 ht))
 exact n.symm.trans ((congrArg (fun z=>Al z L t) h).symm.trans m)
theorem RO{c:HS}{L:AY}{t:Slot}{z:AO}{x}(m:Al {c with abo:=x} L t=some z)(n:t≠.above)(k:∀i,t=.abv i→Al {c with abo:=x} L (.abv i)=some z→Al c L (.abv i)=some z):Al c L t=some z:=by
 cases t<;>first|exact m|exact absurd rfl n|exact k _ rfl m
theorem Yr{c:HS}{L:AY}{t:Slot}{z:AO}{x}(m:Al {c with marks:=x} L t=some z)(n:t≠.marks)(k:∀i,t=.mark i→Al {c with marks:=x} L (.mark i)=some z→Al c L (.mark i)=some z):Al c L t=some z:=by
 cases t<;>first|exact m|exact absurd rfl n|exact k _ rfl m
@[inline]def aS:Lean.Syntax:=aT `(tacticSeq|exact Ag _)
@[inline]def aC:Lean.Syntax:=aT `(tacticSeq|exact cs rfl)
theorem AS.go(P:AS σ L c)(s:Slot){x:AO}{c':HS}{Ψ:AA→Prop}(h:Al c' L s=some x)(q:∀σ',AS σ' L c'→Fm σ c L σ' c' L→(∀a,¬A6 c L a→σ' a=σ a)→Ψ σ')(m:Al c L s≠none)
  (hs:∀t,t≠s→∀y,Al c' L t=some y→Al c L t=some y):Ψ (Internal.upd σ (L s) x):=
 q _ (P.upd s m h hs) (P.updFm s m fun t ht=>by
  by_cases e:t=s
  ·rw[e];exact m
  ·refine AX (Ee.mp ht) fun y hy=>?_;rw[hs t e y hy];exact Ag _) fun a n=>Av _ _ fun e=>n ⟨s,m,e.symm⟩
theorem AS.new(P:AS σ L c){x:AO}{D:AB}{Ψ:AA→Prop}(n:σ D=none)(q:∀σ',σ' D=some x→AS σ' L c→Fm σ c L σ' c L→¬A6 c L D→(∀a,a≠D→σ' a=σ a)→Ψ σ'):Ψ (Internal.upd σ D x):=
 q _ (Ao _ _ _) (P.beside n) (.beside n) (P.out n) fun a h=>Av _ _ h
theorem AS.take(P:AS σ L c)(s₀ s₁:Slot){a:AB}{x y:AO}{c':HS}{Ψ:AA→Prop}{τ:AA}(ha:σ a=some x)(na:τ a=none)(a1:Fm τ c L σ c L)(nf:¬A6 c L a)(n:GG s₀=some s₁)
  (e0:Al c' (L.put s₀ a) s₀=some x)(e1:Al c' (L.put s₀ a) s₁=some y)(hs:∀t,t≠s₀→t≠s₁→∀z,Al c' L t=some z→Al c L t=some z)
  (q:∀σ',AS σ' (L.put s₀ a) c'→Fm τ c L σ' c' (L.put s₀ a)→Ψ σ')(m:Al c L s₁≠none):Ψ (Internal.upd σ (L s₁) y):=by
 have a0:∀t,t≠s₀→t≠s₁→∀z,Al c' (L.put s₀ a) t=some z→Al c L t=some z:=fun t h0 m z hz=>by
  rw[WA n m]at hz;exact hs t h0 m z hz
 refine q _ (P.attach s₀ s₁ ha nf m (Zw n) e0 e1 a0 ⟨J8 n rfl,J8 n rfl,J8 n rfl⟩) (Zce (x:=x) P s₀ s₁ a1 na m (J8 n rfl) fun t h0 ht=>?_);by_cases e:t=s₁
 ·rw[e];exact m
 ·refine AX (Ee.mp ht) fun z hz=>?_;rw[a0 t h0 e z hz];exact Ag _
variable {A:Ab}
theorem Cz{env:Af}{t:Sem Ic}{ρ:AW}{Φ:CK→AW→AA→Prop}(P:AS σ L c)(s:Slot){x:AO}{c':HS}(h:Al c' L s=some x)(q:∀σ',AS σ' L c'→Fm σ c L σ' c' L→(∀a,¬A6 c L a→σ' a=σ a)→I7 A env t ρ σ' Φ)(m:autoParam (Al c L s≠none) aS)
  (hs:autoParam (∀t,t≠s→∀y,Al c' L t=some y→Al c L t=some y) aC):I7 A env t ρ (upd σ (L s) x) Φ:=P.go s h q m hs
theorem S6{env:Af}{t:Sem Ic}{ρ:AW}{Φ:CK→AW→AA→Prop}(P:AS σ L c)(s₀ s₁:Slot){a:AB}{x y:AO}{c':HS}{τ:AA}(ha:σ a=some x)(na:τ a=none)(m:Fm τ c L σ c L)(n:¬A6 c L a)(hf:GG s₀=some s₁)
  (e0:Al c' (L.put s₀ a) s₀=some x)(e1:Al c' (L.put s₀ a) s₁=some y)(hs:∀t,t≠s₀→t≠s₁→∀z,Al c' L t=some z→Al c L t=some z)
  (q:∀σ',AS σ' (L.put s₀ a) c'→Fm τ c L σ' c' (L.put s₀ a)→I7 A env t ρ σ' Φ)(h1:autoParam (Al c L s₁≠none) aS):I7 A env t ρ (upd σ (L s₁) y) Φ:=P.take s₀ s₁ ha na m n hf e0 e1 hs q h1
theorem Zbu{env:Af}{e:Expr}{ρ:AW}{Φ:AV→AA→Prop}(P:AS σ L c){x:AO}{D:AB}(n:σ D=none)(q:∀σ',σ' D=some x→AS σ' L c→Fm σ c L σ' c L→¬A6 c L D→(∀a,a≠D→σ' a=σ a)→EV A env e ρ σ' Φ):EV A env e ρ (upd σ D x) Φ:=P.new n q
theorem gS{f:Value}{args:List AV}{Φ:AV→AA→Prop}(P:AS σ L c)(s:Slot){x:AO}{c':HS}(h:Al c' L s=some x)(q:∀σ',AS σ' L c'→Fm σ c L σ' c' L→(∀a,¬A6 c L a→σ' a=σ a)→AF A f args σ' Φ)(m:autoParam (Al c L s≠none) aS)
  (hs:autoParam (∀t,t≠s→∀y,Al c' L t=some y→Al c L t=some y) aC):AF A f args (upd σ (L s) x) Φ:=P.go s h q m hs
theorem LR{f:Value}{args:List AV}{Φ:AV→AA→Prop}(P:AS σ L c){x:AO}{D:AB}(n:σ D=none)(q:∀σ',σ' D=some x→AS σ' L c→Fm σ c L σ' c L→¬A6 c L D→(∀a,a≠D→σ' a=σ a)→AF A f args σ' Φ):AF A f args (upd σ D x) Φ:=P.new n q
theorem gH{f:Value→Value→Sem Value}{m y1:AV}{Φ:AV→AA→Prop}(P:AS σ L c){x:AO}{D:AB}(n:σ D=none)(q:∀σ',σ' D=some x→AS σ' L c→Fm σ c L σ' c L→¬A6 c L D→(∀a,a≠D→σ' a=σ a)→AM A f m y1 σ' Φ):AM A f m y1 (upd σ D x) Φ:=P.new n q
theorem gj{env:Af}{n:Value→Sem Unit}{m:AV}{ρ:AW}{Φ:AW→AA→Prop}(P:AS σ L c)(s:Slot){x:AO}{c':HS}(h:Al c' L s=some x)(q:∀σ',AS σ' L c'→Fm σ c L σ' c' L→(∀a,¬A6 c L a→σ' a=σ a)→AP A env n m ρ σ' Φ)(h0:autoParam (Al c L s≠none) aS)
  (hs:autoParam (∀t,t≠s→∀y,Al c' L t=some y→Al c L t=some y) aC):AP A env n m ρ (upd σ (L s) x) Φ:=P.go s h q h0 hs
theorem Pj{env:Af}{tt:Value→Sem Unit}{m:AV}{ρ:AW}{Φ:AW→AA→Prop}(P:AS σ L c){x:AO}{D:AB}(n:σ D=none)(q:∀σ',σ' D=some x→AS σ' L c→Fm σ c L σ' c L→¬A6 c L D→(∀a,a≠D→σ' a=σ a)→AP A env tt m ρ σ' Φ):AP A env tt m ρ (upd σ D x) Φ:=P.new n q
theorem Zck{s:Slot}{a:AB}(h:(GG s).isSome=true){t:Slot}(ht:GG t=none):L.put s a t=L t:=Bd _ _ fun e=>by rw[e]at ht;rw[ht]at h;cases h
abbrev KG(c:HS):HS:={c with uab:=c.uab++[c.uab.length],lots:=c.lots++[[c.lots.length]]}
def WB(σ:AA)(c:HS)(L:AY)(A:Ab)(Φ:AV→AA→Prop):Prop:=∀(B:Ai)(R:Ah A 1)(P:AS σ L c)(U:By c.uab)(m:c.lots.length=c.uab.length)(q:∀L' σ',AS σ' L' (KG c)→Fm σ c L σ' (KG c) L'→Φ (.int (c.uab.length:Nat)) σ'),AF A (.ref 199) [.ref (L .un)] σ Φ
def f8:((AA×HS)×AY)×(Ab×(AV→AA→Prop))→Prop:=fun t=>WB t.1.1.1 t.1.1.2 t.1.2 t.2.1 t.2.2
def PC:=zE f8 ((((fun _=>none),Dy),(fun _=>0)),({},(fun _ _=>True)))
def xL:=PC.1.1.1
def D0:=PC.1.1.2
def R8:=PC.1.2
def jw:=PC.2.1
def Za4:=PC.2.2
theorem nF:WB xL D0 R8 jw Za4:=fun B R P U hl q=>by
 have m:=U.sz;refine AF.def (F:=(aQ w)) (names:=["self"]) B R rfl (fun Lf=>?_) (FG fun _=>rfl) rfl ∅
 ·have e1:=P.at_ .uab _ rfl;refine AJ (Be (CY Fj Fk (FK B () P.iU (Ha w) Hi ⟨rfl,e1,
   Aa (Bl B (CW w) CV (Aa (FK B () P.iU (Ha w) Hi (Ce e1 (by simp;exact ln m rfl) (E7 e1 (by simp;exact ln m rfl) ?_)))))⟩)))
  refine Cz P .uab (c':={D0 with uab:=D0.uab++[D0.uab.length]}) (by first|exact Ag _|(show some _=some _;simp)) fun a0 P1 F1 _=>?_
  have e2:=P1.at_ .ulots _ rfl;refine AJ (Be (CY Fj Fk (FK B () P1.iU (LJ w) Ky ⟨rfl,e2,
   Aa (DU (Aa (Bl B (CW w) CV (Aa (FK B () P1.iU (LJ w) Ky (Ce e2 (by simp;exact ln (AK (Ac hl) m) rfl) ⟨!Cu _,fun a na nb=>?_⟩))))))⟩)))
  refine LR P1 na fun a1 ha P2 F2 nf ks=>?_;have e3:=P2.at_ .ulots _ rfl;refine E7 e3 (by simp;exact ln (AK (Ac hl) m) rfl) ?_;refine S6 P2 (c':=KG D0) (.ulot D0.lots.length) .ulots ha na F2 nf rfl (by show YH _ ((D0.lots++[[D0.lots.length]])[D0.lots.length]?)=_;simp) ?_ (fun s n0 n1 z n=>?_) fun a2 P3 F3=>?_
  ·show some (AO.list ((B3 (D0.lots++[[D0.lots.length]]).length).map fun i=>.ref (R8.put (.ulot D0.lots.length) a (.ulot i))))=_;rw[BJ,C5,i7,Cr,List.map_singleton,GO];congr 3;refine Dr fun i hi=>?_;rw[Bd _ _ (fun e=>by obtain rfl:=Internal.Slot.ulot.inj e;exact absurd (MA.mp hi) (EI _))]
  ·cases s<;>first|exact absurd rfl n1|exact n|skip
   rename_i i;have ni:i≠D0.lots.length:=fun e=>n0 (by rw[e]);change((D0.lots++[[D0.lots.length]])[i]?.map _)=some z at n;show(D0.lots[i]?.map _)=some z;rw[List.getElem?_append]at n;split at n
   ·exact n
   ·rename_i hi;have:i-D0.lots.length≠0:=by exact rZ ni hi
    refine AX (i8 this) fun k hk=>?_;rw[hk]at n;simp at n
  ·have e4:=P3.at_ .uab _ rfl;refine AJ (B8 (CE (Bl B (CW w) CV (Aa (FK B (a:=R8 .un) () (Zck (L:=R8) (a:=a) (s:=.ulot D0.lots.length) rfl (t:=.un) rfl▸P3.iU) (Ha w) Hi (Ce e4 (by simp;exact ln m rfl) (BB (NL ?_))))))));have z:=q _ _ P3 (F1.trans F3);have e5:((i9 (nats (KG D0).uab):Nat):Int)-1=(D0.uab.length:Nat):=by simp
   rw[e5];exact z
theorem uF{σ c L A Φ}:WB σ c L A Φ:=@zF _ f8 _ @nF (((σ,c),L),(A,Φ))
end
section
variable {σ σ' σ'' τ τ':AA} {A:Ab} {env:Af} {ρ:AW} {c c':HS} {L L':AY}
theorem W0(B:Ai)(hx:ρ x=some (.ref a))(I:Dm σ a C dx n fs)(hn:fs name=none)(M:B1 w C name f)(F:Ak w f fd)
  (k:AC A env m args ρ σ fun xs σ₂=>AF A (.ref f) (.ref a::xs) σ₂ Φ)(hk:autoParam (env.kindOf x=some .local) aR)(a1:autoParam (env.scope.kind=.function) aR)(hd:autoParam ((x==("__debug__":Str))=false) aD)(hp:autoParam (CJ args=true) aR)
  (he:autoParam (A0 (.Call (.Attribute (.Name x p) name a0) args [] m) env=(do
   let ov ←A0 (.Name x p) env
   Ck a0.atName
   let(f,first) ←CS [ov] (GT ov name pl)
   EK m f first (Df m (BZ args env)) (Hv m (Hw [] env)))) aR):
  EV A env (.Call (.Attribute (.Name x p) name a0) args [] m) ρ σ Φ:=
 W7 B (DC hx hk ⟨_,_,_,_,_,_,_,rfl,I,hn,M,F,k⟩ a1 hd) hp he
theorem Bq(B:Ai)(hx:ρ x=some (.ref a))(I:Dm σ a C dx n fs)(hn:fs name=none)(M:B1 w C name f)(F:Ak w f fd)
  (k:AC A env m args ρ σ fun xs σ₂=>AF A (.ref f) (.ref a::xs) σ₂ Φ)(hk:autoParam (Cf (env.kindOf x)=true) aR)(a1:autoParam (env.scope.kind=.function) aR)(hd:autoParam ((x==("__debug__":Str))=false) aD)(hp:autoParam (CJ args=true) aR)
  (he:autoParam (A0 (.Call (.Attribute (.Name x p) name a0) args [] m) env=(do
   let ov ←A0 (.Name x p) env
   Ck a0.atName
   let(f,first) ←CS [ov] (GT ov name pl)
   EK m f first (Df m (BZ args env)) (Hv m (Hw [] env)))) aR):
  EV A env (.Call (.Attribute (.Name x p) name a0) args [] m) ρ σ Φ:=
 W7 B (AG hx ⟨_,_,_,_,_,_,_,rfl,I,hn,M,F,k⟩ hk a1 hd) hp he
theorem V5(p:js.Perm [(x:Int),(y:Int)])(s:js.Pairwise (· ≤·)):js=[((min x y:Nat):Int),((max x y:Nat):Int)]:=by
 have hl:=p.length_eq
 match js,hl with
 |[a,b],_=>
  have m:a≤b:=by
   rw[Jm]at s;exact s.1 b (.head _)
  have h1:a=x∧b=y∨a=y∧b=x:=by
   have ha:=p.mem_iff.mp (Dg (a:=a) (l:=[b]));rcases A7.mp ha with e|e
   ·left;refine⟨e,?_⟩;subst e;have:=(List.perm_cons _).mp p;simpa using this
   ·have e:=Aq.mp e;right;refine⟨e,?_⟩;subst e;have:=p.trans (ix _ _ _);have:=(List.perm_cons _).mp this;simpa using this
  rcases h1 with⟨e1,n⟩|⟨e1,n⟩
  ·subst e1 n;have:x≤y:=by exact Am YN m
   rw[TD this,TF this]
  ·subst e1 n;have:y≤x:=by exact Am YN m
   rw[TE this,TG this]
abbrev HC(c:HS)(m n:Nat):HS:={c with uab:=c.uab.set n m,lots:=c.lots.set m ((c.lots[m]?.getD [])++(c.lots[n]?.getD [])),merged:=c.merged++[(m,n)]}
structure N9(c:HS):Prop where
 len:c.lots.length=c.uab.length
 sz:∀l∈c.lots,l.length≤1000
 m:c.merged.length≤1000
theorem OT(P:AS σ L c){i:Nat}{l:List Nat}(e:c.lots[i]? =some l):σ (L (.ulot i))=some (.list (nats l)):=P.at_ (.ulot i) _ (by show YH _ _=_;rw[e];rfl)
theorem SD{n i:Nat}(h:i<n):(((B3 n).map fun i=>AV.ref (L (.ulot i))))[((i:Int)).toNat]? =some (.ref (L (.ulot i))):=by
 show((B3 n).map _)[i]? =_;rw[CH,iI h];rfl
def VQ(σ:AA)(A:Ab)(c:HS)(L:AY)(a:Nat)(b:Nat)(Φ:AV→AA→Prop):Prop:=∀(B:Ai)(R:Ah A 2)(P:AS σ L c)(U:By c.uab)(O:N9 c)(ha:a<c.uab.length)(m:b<c.uab.length)(q1:root c.uab a=root c.uab b→∀σ',AS σ' L c→Fm σ c L σ' c L→Φ .none σ')(n:root c.uab a≠root c.uab b→∀σ',AS σ' L (HC c (min (root c.uab a) (root c.uab b)) (max (root c.uab a) (root c.uab b)))→Fm σ c L σ' (HC c (min (root c.uab a) (root c.uab b)) (max (root c.uab a) (root c.uab b))) L→
   Φ (.tup [.int (min (root c.uab a) (root c.uab b):Nat),.int (max (root c.uab a) (root c.uab b):Nat)]) σ'),AF A (.ref 220) [.ref (L .un),.int a,.int b] σ Φ
def Zy:((AA×Ab)×(HS×AY))×((Nat×Nat)×(AV→AA→Prop))→Prop:=fun t=>VQ t.1.1.1 t.1.1.2 t.1.2.1 t.1.2.2 t.2.1.1 t.2.1.2 t.2.2
def Ku:=zE Zy ((((fun _=>none),{}),(Dy,(fun _=>0))),((0,0),(fun _ _=>True)))
def yU:=Ku.1.1.1
def rA:=Ku.1.1.2
def CU:=Ku.1.2.1
def Sd:=Ku.1.2.2
def MQ:=Ku.2.1.1
def M2:=Ku.2.1.2
def jj:=Ku.2.2
theorem tO:VQ yU rA CU Sd MQ M2 jj:=fun B R P U O ha a4 q1 q2=>by
 have a2:=U.sz;have a7:=Jt CU.uab MQ;have a5:=Jt CU.uab M2;refine AF.def (F:=(cr w)) (names:=["self","a","b"]) B R rfl (fun Lf=>?_) (Js fun _ _ _=>rfl) rfl ∅
 ·refine AJ (BR (Bl B (Mq w) MI (Aa (DU (BW
   (W0 B () P.iU () (Rk w) (PF w) (Aa (DC () () (Qz B (R.deeper _) P U ha ?_)))))))))
  refine W0 B () P.iU () (Rk w) (PF w) (Aa (DC () () (Qz B (R.deeper _) P U a4 ?_)));refine⟨!ld rfl,fun D na nb=>?_⟩;refine LR P na fun b2 hD P1 F1 nf ks=>?_;refine Sr (is:=[(root CU.uab MQ:Nat),(root CU.uab M2:Nat)]) hD (!ld rfl) fun js hp hs E nE a9=>?_;have hj:=V5 hp hs;subst hj;generalize hk:min (root CU.uab MQ) (root CU.uab M2)=kept;generalize hg:max (root CU.uab MQ) (root CU.uab M2)=gone;rw[hk,hg]at q2;refine Pj P1 nE fun a8 hE P2 F2 b0 b1=>?_;refine Ex R.handled (.list hE) rfl (BY (NG () (BY (NG () (Da ?_)))));refine AJ (CM (Bg (DC () () (DC () () (HH (BO ?_))))));by_cases h:root CU.uab MQ=root CU.uab M2
  ·have:decide ((kept:Int)=(gone:Int))=true:=by
    rw[←hk,←hg,h];simp
   refine CN this ?_;exact AJ (B8 (XH (q1 h a8 P2 (F1.trans F2))))
  ·have a0:kept<gone:=by exact vU hk hg h
   have n:gone<CU.uab.length:=by exact Zav ha a4 a7 a5 hg
   have:decide ((kept:Int)=(gone:Int))=false:=by simp;exact Am pH a0
   refine Ba this ?_;refine Ax ?_;have e1:=P2.at_ .uab _ rfl;refine AJ (BR (DC () () (KR (FK B () P2.iU (Ha w) Hi (DC () () (setL e1 (by simpa using n) (by simp;exact ln a2 rfl) ?_))))));refine Cz P2 .uab (c':={CU with uab:=CU.uab.set gone kept}) (by first|exact Ag _|(show some _=some _;simp)) fun b3 P3 F3 _=>?_
   obtain⟨l1,a1⟩:∃l,CU.lots[kept]? =some l:=⟨_,Dq (by rw[O.len];exact AK a0 (Ct n))⟩;obtain⟨l2,a3⟩:∃l,CU.lots[gone]? =some l:=⟨_,Dq (by rw[O.len];exact n)⟩;have m1:=O.sz _ (C6 a1);have m2:=O.sz _ (C6 a3);have e2:=P3.at_ .ulots _ rfl;have k1:=OT P3 (c:={CU with uab:=CU.uab.set gone kept}) a1;have k2:=OT P3 (c:={CU with uab:=CU.uab.set gone kept}) a3;have ll:=O.len;refine AJ (Be (CY (l:=Sd (.ulot kept)) (xs:=nats l1) iL Ze2
    (CR (FK B () P3.iU (LJ w) Ky (DC () () ⟨⟨_,_,.list e2⟩,Eh e2 (!A5 o0) (SD (L:=Sd) (i:=kept) (by show kept<CU.lots.length;exact AK (AK a0 (Ct n)) (Ac ll.symm))) (!BS yM a2 a0 n) ⟨rfl,k1,
     Aa (CR (FK B () P3.iU (LJ w) Ky (DC () () ⟨⟨_,_,.list e2⟩,Eh e2 (!A5 o0) (SD (L:=Sd) (i:=gone) (by show gone<CU.lots.length;exact AK n (Ac ll.symm))) (!Am o7 a2 n)
      (gN k1 k2 (by rw[AU,AU];exact Am ny m1 m2) ?_)⟩)))⟩⟩)))))
   refine Cz P3 (.ulot kept) (c':={CU with uab:=CU.uab.set gone kept,lots:=CU.lots.set kept ((CU.lots[kept]?.getD [])++(CU.lots[gone]?.getD []))}) ?h1 (fun b4 P4 F4 _=>?_) (by show(CU.lots[kept]?.map _)≠none;rw[a1];exact Ag _) ?h2
   case h1=>
    show((CU.lots.set kept _)[kept]?.map _)=_;rw[Jo (!AK (AK a0 (Ct n)) (Ac ll.symm)),a1,a3];simp
   case h2=>
    intro t ht y hy;cases t<;>first|exact hy|skip
    ·change some (AO.list ((B3 (CU.lots.set kept _).length).map _))=_ at hy;rw[Ij]at hy;exact hy
    ·rename_i i;change((CU.lots.set kept _)[i]?.map _)=_ at hy;rw[Hy (fun e=>ht (by rw[e]))]at hy;exact hy
   have e5:=P4.at_ .merged _ rfl;refine AJ (Be (CY Fj Fk (FK B () P4.iU (OB w) PP ⟨rfl,e5,
    Aa (Bt (BW (DC () () (DC () () ⟨!ld rfl,E7 e5 (by rw[AU];have:=O.m;show CU.merged.length≤_;exact ln this rfl) ?_⟩))))⟩)))
   refine Cz P4 .merged (c':=HC CU kept gone) (by first|exact Ag _|(show some _=some _;simp)) fun a6 P5 F5 _=>?_
   refine AJ (B8 (Bt (BW (DC () () (DC () () ⟨!ld rfl,?_⟩)))));exact q2 h a6 P5 (F1.trans (F2.trans (F3.trans (F4.trans F5))))
theorem qL{σ A c L a b Φ}:VQ σ A c L a b Φ:=@zF _ Zy _ @tO (((σ,A),(c,L)),((a,b),Φ))
end
section
def Iz(x:Nat):List Nat→List Nat
 |[]=>[x]
 |y::ys=>if x<y then x::y::ys else if x=y then y::ys else y::Iz x ys
def ss(xs:List Nat):List Nat:=xs.foldr Iz []
theorem T8{x y:Nat}{ys:List Nat}:Iz x (y::ys)=if x<y then x::y::ys else if x=y then y::ys else y::Iz x ys:=by rfl
theorem b9:∀{ys:List Nat},z∈Iz x ys↔z=x∨z∈ys:=by
 intro ys
 induction ys with
 |nil=>
  show z∈[x]↔_;simp
 |cons y ys m=>
  rw[T8];split
  ·simp
  ·split
   ·rename_i h;subst h;simp
   ·rw[A7,A7,m];constructor
    ·rintro(h|h|h)<;>simp[h]
    ·rintro(h|h|h)<;>simp[h]
theorem mi:∀{ys:List Nat},ys.Pairwise (· <·)→(Iz x ys).Pairwise (· <·):=by
 intro ys
 induction ys with
 |nil=>
  intro _;exact Ze3 _ _
 |cons y ys m=>
  intro h;rw[T8];rw[Jm]at h;split
  ·rename_i l;refine Jm.mpr ⟨fun z n=>?_,Jm.mpr h⟩;rcases A7.mp n with rfl|q
   ·exact l
   ·exact ik l (h.1 z q)
  ·split
   ·exact Jm.mpr h
   ·refine Jm.mpr ⟨fun z n=>?_,m h.2⟩;rcases b9.mp n with rfl|q
    ·exact Am uo (by assumption) (by assumption)
    ·exact h.1 z q
theorem M5:z∈ss xs↔z∈xs:=by
 induction xs with
 |nil=>rfl
 |cons x xs m=>show z∈Iz x (ss xs)↔_;rw[b9,m,A7]
theorem Pd:∀xs:List Nat,(ss xs).Pairwise (· <·)
 |[]=>.nil
 |x::xs=>mi (Pd xs)
theorem UF:∀{xs ys:List Nat},xs.Pairwise (· <·)→ys.Pairwise (· <·)→(∀z,z∈xs↔z∈ys)→xs=ys
 |[],[],_,_,_=>rfl
 |[],y::ys,_,_,h=>absurd ((h y).mpr (.head _)) (by simp)
 |x::xs,[],_,_,h=>absurd ((h x).mp (.head _)) (by simp)
 |x::xs,y::ys,hx,hy,h=>by
  have n:=Jm.mp hx;have m:=Jm.mp hy;have e:x=y:=by
   rcases A7.mp ((h x).mp (.head _))with e|q
   ·exact e
   ·rcases A7.mp ((h y).mpr (.head _))with e|q'
    ·exact e.symm
    ·have:=m.1 x q;have:=n.1 y q';exact Am nX (by assumption) this
  subst e;rw(config:={}) [UF n.2 m.2 fun z=>?_];constructor
  ·intro q;rcases A7.mp ((h z).mp (.tail _ q))with e|r
   ·have:=n.1 z q;exact absurd e (HP this)
   ·exact r
  ·intro q;rcases A7.mp ((h z).mpr (.tail _ q))with e|r
   ·have:=m.1 z q;exact absurd e (HP this)
   ·exact r
theorem UY{xs:List Nat}:(ss xs).length≤xs.length:=by
 induction xs with
 |nil=>exact A9 _
 |cons x xs m=>
  have:∀ys:List Nat,(Iz x ys).length≤ys.length+1:=fun ys=>by
   induction ys with
   |nil=>exact Cu _
   |cons y ys m=>rw[T8];split<;>(try split)<;>simp<;>exact m
  have:=this (ss xs);show(Iz x (ss xs)).length≤_;simp;exact AK this (CD m)
section
variable {K V W:Type} [DecidableEq K] {J:Type} [DecidableEq J]
theorem N6(f:J→K)(g:V→W)(n:∀a b,f a=f b→a=b):∀(xs:List (J×V))(k:J),AH (xs.map fun p=>(f p.1,g p.2)) (f k)=(AH xs k).map g:=by
 intro xs
 induction xs with
 |nil=>
  intro _;exact rfl
 |cons p xs m=>
  intro k;rw[CB,FT,FT,m k];by_cases h:p.1=k
  ·rw[if_pos h,if_pos (by rw[h])];rfl
  ·rw[if_neg h,if_neg fun e=>h (n _ _ e)]
theorem oJ(f:J→K)(g:V→W)(m:∀a b,f a=f b→a=b)(xs:List (J×V))(k:J)(v:V):Aw (xs.map fun p=>(f p.1,g p.2)) (f k) (g v)=(Aw xs k v).map fun p=>(f p.1,g p.2):=by
 unfold Aw;rw[N6 f g m];cases AH xs k with
 |none=>simp
 |some y=>
  simp only[Option.map_some,QP,if_true,Bu];refine Dr fun p n=>?_;simp only[Nw];by_cases h:p.1=k
  ·simp[h]
  ·rw[if_neg h,if_neg fun e=>h (m _ _ e)]
theorem am(f:J→K)(g:V→W)(m:∀a b,f a=f b→a=b)(xs:List (J×V))(k:J):BP (xs.map fun p=>(f p.1,g p.2)) (f k)=(BP xs k).map fun p=>(f p.1,g p.2):=by
 unfold BP;rw[Jl];refine congrArg _ (Tn fun p n=>?_);simp only[Nw];by_cases h:p.1=k
 ·simp[h]
 ·rw[decide_eq_true h];exact decide_eq_true fun e=>h (m _ _ e)
end
namespace HS
def find(c:HS)(a:Nat):Nat:=root c.uab a
def nd(c:HS)(n:Nat):Nd:=(c.nodes[n]?).getD ("",[])
def canon(c:HS)(n:Nat):Nd:=((c.nd n).1,(c.nd n).2.map c.find)
def ab(c:HS)(a:Nat):List Nat:=(AH c.abo a).getD []
def join(c:HS)(a b:Nat)(r:AV):HS:=
 let k:=min (c.find a) (c.find b);let g:=max (c.find a) (c.find b)
 if c.find a=c.find b then{c with changes:=c.changes++[.loose k (c.ab k).length k],edges:=c.edges++[.tup [.int a,.int b,r]]}
 else{HC c k g with changes:=c.changes++[.edge k (c.ab k).length g (c.ab g)],edges:=c.edges++[.tup [.int a,.int b,r]],forest:=c.forest++[c.edges.length],waiting:=c.waiting++c.ab g,abo:=Aw (BP c.abo g) k (c.ab k++c.ab g)}
def likeR:AV:=.tup [.str "like"]
def note(c:HS)(n:Nat):HS:=
 let m:HS:=if n=c.made then{c with changes:=c.changes++[.made n],made:=n+1}else c
 if(AH c.known (c.canon n)).isSome then m else{m with changes:=m.changes++[.known (c.canon n)]}
def look(c:HS)(n:Nat):HS:=
 let o:=(AH c.known (c.canon n)).getD n;let m:HS:=if(AH c.known (c.canon n)).isSome then c else{c with known:=c.known++[(c.canon n,n)]}
 if c.find o≠c.find n then m.join o n likeR else m
def lookAt(c:HS)(n:Nat):HS:=(c.note n).look n
end HS
end
section
variable {σ σ' σ'' τ τ':AA} {A:Ab} {env:Af} {ρ:AW} {c c':HS} {L L':AY}
theorem Q2(l:List Nat):nats l=BI (l.map fun(n:Nat)=>(n:Int)):=by
 show l.map _=(l.map _).map _;rw[Bu];rfl
theorem AN(h:y≠x):put ρ x v y=ρ y:=if_neg h
theorem As:put ρ x v x=some v:=if_pos rfl
theorem va(B:Ai)(R:Ah A 2)(P:AS σ L c)(U:By c.uab){a:Nat}(ha:a<c.uab.length){l:List Nat}(hl:c.lots[root c.uab a]? =some l)(ll:l.length<64)(hn:c.lots.length≤1000){Φ:AV→AA→Prop}
  (q:∀js,js.Perm (l.map fun(n:Nat)=>(n:Int))→js.Pairwise (· ≤·)→∀D σ',σ' D=some (.list (BI js))→AS σ' L c→Fm σ c L σ' c L→Φ (.ref D) σ'):AF A (.ref 227) [.ref (L .un),.int a] σ Φ:=by
 refine AF.def (F:=(cn w)) (names:=["self","a"]) B R rfl (fun Lf=>?_) (C9 fun zz zz=>rfl) rfl ∅
 ·have e2:=P.at_ .ulots _ rfl;have m:root c.uab a<c.lots.length:=(BX.mp hl).1;have k1:=OT P hl;rw[Q2]at k1;refine AJ (B8 (Bl B (Mq w) MI (Aa (CR (FK B () P.iU (LJ w) Ky
   (W0 B () P.iU () (Rk w) (PF w) (Aa (DC () () (Qz B (R.deeper _) P U ha ⟨⟨_,_,.list e2⟩,Eh e2 (!A5 o0) (SD m) (!Am o7 hn m)
    (Sr k1 (by rw[AU];exact ll) fun js hp hs D nD nb=>?_)⟩)))))))))
  refine q js hp hs D _ (Ao _ _ _) (P.beside nD) (.beside nD)
theorem jf(B:Ai)(R:Ah A 2)(P:AS σ L c)(U:By c.uab)
  (q:∀D σ',σ' D=some (.list (nats ((B3 c.uab.length).filter fun a=>decide (c.uab[a]? =some a))))→σ D=none→AS σ' L c→Fm σ c L σ' c L→Φ (.ref D) σ'):AF A (.ref 232) [.ref (L .un)] σ Φ:=by
 refine GQ (F:=(bB w)) (names:=["self"]) B R rfl (fun Lf=>?_) (FG fun zz=>rfl) rfl ∅
 ·have e1:=P.at_ .uab _ rfl;have m:=U.sz;refine AJ (B8 (Pp R.handled (LY (Fd B (Ip w) JM ⟨rfl,Aa (Bl B (CW w) CV (Aa (gY B () P.iU (Ha w) Hi (Ce e1 (by simp;exact ln m rfl) ⟨c.uab.length,by simp,!ln (CD m) rfl,?_⟩))))⟩ ⋯ () () () ())) ()));refine⟨⟨_,_,rfl⟩,_,XJ,by simp;exact ln m rfl,fun v=>match v with|.int i=>decide (c.uab[i.toNat]? =some i.toNat)|_=>false,id,fun v hv C=>?_,fun v hv zz C=>?_,fun D nD nb=>?_⟩
  ·refine AI (BD.mp hv) fun i n a1=>?_;subst a1;have n:=MA.mp n;have hx:c.uab[i]? =some c.uab[i]:=Dq n;have hz:(0:Int)+(i:Nat)=(i:Nat):=Jg _;rw[hz];refine Bg (CR (gY B () P.iU (Ha w) Hi (DC () () ⟨⟨_,_,.list e1⟩,Eh e1 (!A5 o0) (dw hx) (!Am o7 m n) (DC () () (HH (BO ⟨?_,rfl⟩)))⟩)));show _=decide (c.uab[((i:Nat):Int).toNat]? =some ((i:Nat):Int).toNat);rw[EN,hx];simp only[Option.some.injEq];exact decide_eq_decide.mpr (!BS tC n)
  ·refine AI (BD.mp hv) fun i n a0=>?_;subst a0;exact DC () () ⟨rfl,rfl⟩
  ·refine q D _ ?_ nD (P.beside nD) (.beside nD);rw[Ao,Jl,Bu];simp -iota only[id,Jg];congr 2
def U0(A:Ab)(c:HS)(L:AY)(ms:List (Nat×Nat))(k:Nat)(g:Nat)(l1:List Nat)(l2:List Nat)(Φ:AV→AA→Prop):Prop:=∀{σ:AA}(B:Ai)(R:Ah A 1)(P:AS σ L c)(hm:c.merged=ms++[(k,g)])(hk:k≠g)(n:g<c.uab.length)(m:c.lots[k]? =some (l1++l2))(h2:c.lots[g]? =some l2)(O:N9 c)(sz:c.uab.length≤1000)(q:∀σ',AS σ' L {c with merged:=ms,uab:=c.uab.set g g,lots:=c.lots.set k l1}→Fm σ c L σ' {c with merged:=ms,uab:=c.uab.set g g,lots:=c.lots.set k l1} L→Φ .none σ'),AF A (.ref 246) [.ref (L .un),.int (ms.length:Nat)] σ Φ
def Zj:(((Ab×HS)×AY)×((List (Nat×Nat))×Nat))×((Nat×List Nat)×(List Nat×(AV→AA→Prop)))→Prop:=fun t=>U0 t.1.1.1.1 t.1.1.1.2 t.1.1.2 t.1.2.1 t.1.2.2 t.2.1.1 t.2.1.2 t.2.2.1 t.2.2.2
def JG:=zE Zj (((({},Dy),(fun _=>0)),([],0)),((0,[]),([],(fun _ _=>True))))
def Ub:=JG.1.1.1.1
def DX:=JG.1.1.1.2
def Hl:=JG.1.1.2
def Fx:=JG.1.2.1
def GL:=JG.1.2.2
def G0:=JG.2.1.1
def Kk:=JG.2.1.2
def VJ:=JG.2.2.1
def R9:=JG.2.2.2
theorem qe:U0 Ub DX Hl Fx GL G0 Kk VJ R9:=fun{σ} B R P hm hk hg h1 h2 O sz q=>by
 refine AF.def (F:=(fB w)) (names:=["self","many"]) B R rfl (fun Lf=>?_) (C9 fun _ _=>rfl) rfl ∅
 ·have hO:=O.m;have hL:=O.len;have hs:=O.sz _ (C6 h1);have a0:GL<DX.lots.length:=(BX.mp h1).1;have a5:G0<DX.lots.length:=(BX.mp h2).1;have a1:DX.merged.length=Fx.length+1:=by rw[hm];simp
  refine AJ (LS (fun n ρ' σ'=>(n=1∧σ'=σ∧ρ'=B4 ["self","many"] [.ref (Hl .un),.int (Fx.length:Nat)])∨(n=0∧ρ' "self"=some (.ref (Hl .un))∧ρ' "many"=some (.int (Fx.length:Nat))∧
   AS σ' Hl {DX with merged:=Fx,uab:=DX.uab.set G0 G0,lots:=DX.lots.set GL Kk}∧Fm σ DX Hl σ' {DX with merged:=Fx,uab:=DX.uab.set G0 G0,lots:=DX.lots.set GL Kk} Hl)) 1 (.inl ⟨rfl,rfl,rfl⟩) ?_)
  rintro n ρ' σ' (⟨rfl,rfl,rfl⟩|⟨rfl,r1,r2,P',F'⟩)
  ·have e1:=P.at_ .merged _ rfl;refine Bg (Bl B (CW w) CV (Aa (FK B () P.iU (OB w) PP (Ce e1 (by rw[AU];exact ln hO rfl) (DC () () (KQ (BO ?_)))))));rw[AU];have:decide (((DX.merged.length:Nat):Int)>(Fx.length:Nat))=true:=by rw[a1];simp;exact A5 oQ
   refine CN this ?_;have a4:σ' (Hl .merged)=some (.list (Fx.map (fun p=>.tup [.int p.1,.int p.2])++[.tup [.int GL,.int G0]])):=by
    rw[e1,hm,Cr];rfl
   refine AJ (BR (CY FO Fl (FK B () P.iU (OB w) PP ⟨rfl,a4,AC.nil (FJ a4 (by rw[AU];exact ln (AK (Ct (Ac a1.symm)) hO) rfl) ?_)⟩)));refine gj P .merged (c':={DX with merged:=Fx}) (by first|exact Ag _|(show some _=some _;simp)) fun a7 P1 F1 _=>?_
   refine Ex R.handled (.tup _) rfl (BY (NG () (BY (NG () (Da ?_)))));have e2:=P1.at_ .uab _ rfl;refine AJ (BR (DC () () (KR (FK B () P1.iU (Ha w) Hi (DC () () (setL e2 (by simpa using hg) (by simp;exact ln sz rfl) ?_))))));refine Cz P1 .uab (c':={DX with merged:=Fx,uab:=DX.uab.set G0 G0}) (by first|exact Ag _|(show some _=some _;simp)) fun a3 P2 F2 _=>?_
   have e3:=P2.at_ .ulots _ rfl;have k1:a3 (Hl (.ulot GL))=some (.list (nats Kk++nats VJ)):=by
    have:=OT P2 (i:=GL) h1;rw[this];show _=some (AO.list (Kk.map _++VJ.map _));rw[←Cr]
   have k2:=OT P2 (i:=G0) h2;have a2:∀{i:Nat}{Ub:Ab}{ρ:AW}{x:Str}{p1 p2 p3 p4:A8}{R9:AV→AA→Prop},i<DX.lots.length→ρ "self"=some (.ref (Hl .un))→ρ x=some (.int (i:Nat))→Cf ((BA (Uw w) Lf 246).kindOf x)=true→(x==("__debug__":Str))=false→R9 (.ref (Hl (.ulot i))) a3→EV Ub (BA (Uw w) Lf 246) (((YG "self" p1).Attribute "lots" p2).Subscript (YG x p3) p4) ρ a3 R9:=fun hi r1 r2 a6 hd q=>
    HG B r1 P2.iU (LJ w) Ky r2 (.list e3) (Eh e3 (!A5 o0) (SD (L:=Hl) hi) (!BS vO sz hL hi) q) () a6 trivial () ⋯ hd
   refine AJ (XE (a2 a0 () () () ⋯ (CE (Bl B (CW w) CV (Aa (a2 a0 () () () ⋯ (Ce k1 (by simp at hs ⊢;exact ln hs rfl) (Bl B (CW w) CV (Aa (a2 a5 () () () ⋯ (Ce k2 (by simp at hs ⊢;exact Am jv hs) (NL ?_))))))))))));refine⟨_,_,Kk.length,rfl,by simp,k1,by simp,by simp at hs ⊢;exact ln hs rfl,?_⟩;rw[Tp (!AU _)];refine Cz P2 (.ulot GL) (c':={DX with merged:=Fx,uab:=DX.uab.set G0 G0,lots:=DX.lots.set GL Kk}) ?_ (fun a8 P3 F3 _=>Ax ⟨0,!A9 _,.inr ⟨rfl,by rfl,by rfl,P3,F1.trans (F2.trans F3)⟩⟩) (by show(DX.lots[GL]?.map _)≠none;rw[h1];exact Ag _) ?_
   ·show((DX.lots.set GL _)[GL]?.map _)=_;rw[Jo a0];rfl
   ·intro t ht y hy;cases t<;>first|exact hy|skip
    ·change some (AO.list ((B3 (DX.lots.set GL _).length).map _))=_ at hy;rw[Ij]at hy;exact hy
    ·rename_i i;change((DX.lots.set GL _)[i]?.map _)=_ at hy;rw[Hy (fun e=>ht (by rw[e]))]at hy;exact hy
  ·have e1:=P'.at_ .merged _ rfl;refine Bg (Bl B (CW w) CV (Aa (FK B r1 P'.iU (OB w) PP (Ce e1 (by rw[AU];show Fx.length≤_;exact ln (AK (Ct (Ac a1.symm)) hO) rfl) (DC r2 () (KQ (BO ?_)))))));rw[AU];have:decide (((Fx.length:Nat):Int)>(Fx.length:Nat))=false:=by simp
   refine Ba this ?_;exact Ax (q σ' P' F')
theorem yJ{A c L ms k g l1 l2 Φ}:U0 A c L ms k g l1 l2 Φ:=@zF _ Zj _ @qe ((((A,c),L),(ms,k)),((g,l1),(l2,Φ)))
set_option tactic.hygienic true in
theorem jM(B:Ai)(R:Ah A 5)(P:AS σ L c)(U:By c.uab){n:Nat}{ab:List Nat}(h1:c.uab=ab++[n])(h2:c.lots=ls++[[n]])(n1:ab.length=n)(n2:ls.length=n){Φ:AV→AA→Prop}
  (q:∀σ',AS σ' L {c with uab:=ab,lots:=ls}→Fm σ c L σ' {c with uab:=ab,lots:=ls} L→Φ .none σ'):AF A (.ref 253) [.ref (L .un),.int n] σ Φ:=by
 have sz:=U.sz;have m:c.uab.length=n+1:=by rw[h1];simp[n1]
 have a0:c.lots.length=n+1:=by rw[h2];simp[n2]
 have hn:c.uab[n]? =some n:=by rw[h1,Ik (!Ac n1),n1];simp
 have hr:root c.uab n=n:=G5 hn;have a3:c.lots[n]? =some [n]:=by rw[h2,Ik (!Ac n2),n2];simp
 refine AF.def (F:=(u7 w)) (names:=["self","many"]) B R rfl (fun Lf=>?_) (C9 fun _ _=>rfl) rfl ∅
 ·refine AJ (BR (Bl B (WP w) Wr (BW (AG () (BB (gZ R.handled ?_))))));have hm:(if(0:Int)>(n:Nat)then(0:Int)else(n:Nat))=(n:Nat):=if_neg (!A5 bG);rw[hm];refine A2 ?_;have e1:=P.at_ .uab _ rfl;refine AJ (Gl R.handled (Zcu (Fd B (Ip w) JM ⟨rfl,BW (AG () (Bl B (CW w) CV (Aa (BM B () P.iU (Ha w) Hi (Ce e1 (by rw[AU];exact ln sz rfl) ⟨n,n+1,by rw[AU,m],!ln (AK (Ac m.symm) sz) rfl,!ln (AK (CD (Ac m.symm)) (CD sz)) rfl,⟨_,_,rfl⟩,trivial,1,fun i ρ' σ'=>i≤1∧ρ' "self"=some (.ref (L .un))∧ρ' "many"=some (.int n)∧AS σ' L c∧Fm σ c L σ' c L,⟨!ld rfl,by rfl,by rfl,P,.refl _ _ _⟩,?_⟩)))))⟩ ⋯ () () () ())));rintro i ρ' σ' ⟨hi,r1,r2,P',F'⟩;refine⟨hi,_,rfl,?_⟩;by_cases h0:i<n+1-n
  ·have:i=0:=by exact zN h0
   subst this;rw[if_pos h0];refine A2 ?_;have z:((n:Nat):Int)+((0:Nat):Int)=(n:Nat):=by exact rfl
   rw[z];refine AJ (CM (Bg (Bq B (by rw[AN ⋯];exact r1) P'.iU () (uH w) (cn w) (Aa (AG (As) (va B (R.up rfl) P' U (!Ac m.symm) (l:=[n]) (by rw[hr];exact a3) (!ld rfl) (!AK (AK (Ac a0) (Ac m.symm)) sz) fun js hp hs D a2 hD P1 F1=>?_))))));have hj:js=[(n:Int)]:=List.perm_singleton.mp (by simpa using hp);subst hj;refine DU (Aa (AG As ⟨!Cu _,fun E nE a5=>?_⟩));refine gH P1 nE fun a1 hE P2 F2 nf ks=>?_;have a4:a1 D=some (.list (BI [(n:Int)])):=by rw[ks D (by rintro rfl;exact Au ((nE.symm.trans hD)))];exact hD
   refine XO (d:=.list [.int n]) (e:=.list [.int n]) (R.deeper _ |>.mono (!A9 _)) (.list a4 (.cons (.int _) .nil)) (.list hE (.cons (.int _) .nil)) () () (BO ?_);have:(not (HQ (.list [.int n]) (.list [.int n])))=false:=by simp[HQ,PyData.eqvAll]
   refine Ba this ?_;exact Ax (Ax ⟨!A9 _,by rw[AN ⋯];exact r1,by rw[AN ⋯];exact r2,P2,F'.trans (F1.trans F2)⟩)
  ·rw[if_neg h0];have e1:=P'.at_ .uab _ rfl;refine AJ (XE (BM B r1 P'.iU (Ha w) Hi (AG r2 ⟨_,_,n,rfl,rfl,e1,by rw[AU];exact Ct (Ac m.symm),by rw[AU];exact ln sz rfl,?_⟩)));have:(nats c.uab).take n=nats ab:=by rw[h1];show(Il _ _).take n=_;rw[Cr,Tp (by simp[n1])]
   rw[this];refine Cz P' .uab (c':={c with uab:=ab}) (by first|exact Ag _|(show some _=some _;simp)) fun a2 P1 F1 _=>?_
   have e2:=P1.at_ .ulots _ rfl;refine AJ (XE (BM B r1 P1.iU (LJ w) Ky (AG r2 ⟨_,_,n,rfl,rfl,e2,by simp;show n≤c.lots.length;exact Ct (Ac a0.symm),by simp;show c.lots.length≤_;exact ln (AK (AK (Ac a0) (Ac m.symm)) sz) rfl,?_⟩)));refine Cz P1 .ulots (c':={c with uab:=ab,lots:=ls}) ?_ (fun a1 P2 F2 _=>Ax (q a1 P2 (F'.trans (F1.trans F2)))) (by first|exact Ag _|(show some _=some _;simp)) ?_
   ·show some (AO.list ((B3 ls.length).map fun i=>AV.ref (L (.ulot i))))=_;show _=some (AO.list (((B3 c.lots.length).map _).take n));rw[a0,i7,Cr,Tp (by simp),n2]
   ·intro t ht y hy;cases t<;>first|exact absurd rfl ht|exact hy|skip
    rename_i i;change(ls[i]?.map _)=_ at hy;show(c.lots[i]?.map _)=_;rw[h2];cases hq:ls[i]? with
    |none=>rw[hq]at hy;cases hy
    |some v=>rw[El (BX.mp hq).1,hq];rw[hq]at hy;exact hy
def Ap(σ σ':AA):Prop:=∀a,σ a≠none→σ' a=σ a
theorem Ap.refl(σ:AA):Ap σ σ:=fun m m=>rfl
theorem Ap.trans(x:Ap σ σ')(y:Ap σ' σ''):Ap σ σ'':=fun a h=>by rw[y a (by rw[x a h];exact h),x a h]
theorem Ap.new{D:AB}{x:AO}(n:σ D=none):Ap σ (upd σ D x):=fun a h=>Av _ _ (by rintro rfl;exact h n)
theorem AS.ext(P:AS σ L c)(x:Ap σ σ'):AS σ' L c:=P.other fun a f=>x a (P.foot f)
theorem Ap.fm(x:Ap σ σ'):Fm σ c L σ' c L:=⟨fun a h m=>x a h,fun m f=>.inl f,rfl⟩
def Cs(x:Str):Prop:=x="a"∨x="b"∨x="c"∨x="f"∨x="g"
theorem Cs.char(o:Cs x):∃ch,x=⟨#[ch]⟩∧x.cps.all (· <128)=true∧Txt.isspace ⟨#[ch]⟩=false∧(not ((Zdl ("()[]{},:":Str) ⟨#[ch]⟩ 0 ("()[]{},:":Str).length 1).isEmpty))=false∧(x != ("":Str))=true∧((⟨#[ch]⟩:Str)==("?":Str))=false:=by
 rcases o with rfl|rfl|rfl|rfl|rfl
 ·exact⟨97,rfl,by decide+kernel,by decide+kernel,by decide+kernel,by decide,by decide⟩
 ·exact⟨98,rfl,by decide+kernel,by decide+kernel,by decide+kernel,by decide,by decide⟩
 ·exact⟨99,rfl,by decide+kernel,by decide+kernel,by decide+kernel,by decide,by decide⟩
 ·exact⟨102,rfl,by decide+kernel,by decide+kernel,by decide+kernel,by decide,by decide⟩
 ·exact⟨103,rfl,by decide+kernel,by decide+kernel,by decide+kernel,by decide,by decide⟩
theorem sB(w:AD):Cj (KK w) Bh "is_op"=some (some (.ref 67)):=∅
theorem rU(B:Ai)(R:Ah A 6)(o:Cs x)(q:∀σ',Ap σ σ'→Φ (.bool true) σ'):AF A (.ref 67) [.str x] σ Φ:=by
 refine AX o.char fun ch a1=>Bs a1 fun e1 e2 e3 a0=>BN a0 fun e4 e5 e6=>?_;refine AF.def (F:=(cX w)) (names:=["text"]) B R rfl (fun Lf=>?_) (FG fun zz=>rfl) rfl ∅
 ·refine AJ (B8 (gM (NA (AG () (DB (Zcp ⟨true,by rw[e5],?_⟩))))));refine CN rfl ?_;refine NA (Pp R.handled (Zb8 (AG () ⟨x,rfl,e2,⟨_,_,rfl⟩,[.str x],fun i=>?_,!Cu _,fun zz=>false,id,fun v hv C=>?_,fun v hv h=>(Gq h).elim,fun D nD nb=>?_⟩)) ())
  ·show _=x.cps[i]?.map _;rw[e1]
   match i with
   |0=>rfl
   |n+1=>rfl
  ·rw[Aq]at hv;subst hv;refine Le (HJ (Pr (Zc8 PySem.F.slot_str_isspace PySem.F.type_str_isspace (AG () ⟨rfl,AC.nil (Zd3 (b:=false) (by rw[e1];exact e3) (BO ?_))⟩))));refine Ba rfl ?_;exact HJ (Bg (AG () (DB (Zd0 (b:=false) (by rw[e1];exact e4) (BO (NH ⟨rfl,rfl⟩))))))
  ·refine DU (AC.nil ⟨!Bc _,fun E m a3=>?_⟩);have a2:D≠E:=by rintro rfl;rw[Ao]at m;cases m
   refine gn (d:=.list []) (e:=.list []) (R.up rfl) (.list (by rw[Av _ _ a2,Ao];rfl) .nil) (.list (Ao _ _ _) .nil) () () ?_;have:HQ (.list []) (.list [])=true:=by simp[HQ,PyData.eqvAll]
   rw[this];exact q _ ((Ap.new nD).trans (.new m))
theorem GH(n:Nd):Bw n.key=.tup (.str n.1::nats n.2):=by
 show AV.tup (_::(n.2.map _).map B5.av)=_;rw[Bu];rfl
theorem Hr{id:Str}(B:Ai)(e:Cj (KK w) Bh id=some (some (.ref f)))(F:Ak w f fd)
  (k:AC A env m args ρ σ fun xs σ₂=>AF A (.ref f) xs σ₂ Φ)(hx:autoParam (env.kindOf id=some .globalImplicit) aR)(hk:autoParam (env.scope.kind=.function) aR)(n:autoParam (env.globals=Bh) aR)
  (hd:autoParam ((id==("__debug__":Str))=false) aD)(hp:autoParam (CJ args=true) aR):EV A env (.Call (.Name id p) args [] m) ρ σ Φ:=
 LW B (NM B e ⟨_,.fn F,k⟩ hx hk n hd) hp
theorem NS(n:ρ x=some (.tup (v::xs)))(hz:xs.length≤1000)(q:Φ (.tup xs) σ)(hl:autoParam (Cf (env.kindOf x)=true) aR)(m:autoParam (env.scope.kind=.function) aR)(hd:autoParam ((x==("__debug__":Str))=false) aD):
  EV A env (.Subscript (.Name x p) (.Slice (some (.Constant (.int 1) k p2)) none none p3) p4) ρ σ Φ:=
 So (AG n (BB ⟨1,rfl,⟨_,_,.tup⟩,JF.tup (a:=1) (!A9 _) (!Cu _) (by simp;exact ln hz rfl) q⟩) hl m hd)
theorem JJ:G7 L "nodes"=some (.ref (L .nodes)):=by rfl
theorem Oo:G7 L "numbers"=some (.ref (L .numbers)):=by rfl
theorem Wb:G7 L "weights"=some (.ref (L .wts)):=by rfl
theorem V2:G7 L "depths"=some (.ref (L .dps)):=by rfl
theorem Y1{i:Nat}(e:c.nodes[i]? =some n):(c.nodes.map fun n=>Bw n.key)[((i:Int)).toNat]? =some (.tup (.str n.1::nats n.2)):=by
 rw[EN,CH,e,←GH];rfl
theorem nv(B:Ai)(R:Ah A 1)(P:AS σ L c)(m:c.nodes.length≤1000)(q:Φ (.int (c.nodes.length:Nat)) σ):AF A (.ref 93) [.ref (L .bk)] σ Φ:=by
 refine AF.def (F:=(eY w)) (names:=["self"]) B R rfl (fun Lf=>?_) (FG fun n=>rfl) rfl ∅
 ·refine AJ (B8 (Bl B (CW w) CV (Aa (BM B () P.iB (JI w) JJ (Ce (P.at_ .nodes _ rfl) (by rw[AU];exact ln m rfl) ?_)))));rw[AU];exact q
theorem lc(B:Ai)(R:Ah A 1)(P:AS σ L c){i:Nat}(e:c.nodes[i]? =some n)(m:c.nodes.length≤1000)(q:Φ (.str n.1) σ):AF A (.ref 131) [.ref (L .bk),.int i] σ Φ:=by
 refine AF.def (F:=(YU w)) (names:=["self","n"]) B R rfl (fun Lf=>?_) (C9 fun zz zz=>rfl) rfl ∅
 ·have:=(BX.mp e).1;exact AJ (B8 (CR (HG B () P.iB (JI w) JJ () (.list (P.at_ .nodes _ rfl)) (Eh (P.at_ .nodes _ rfl) (!A5 o0) (Y1 e) (!Am o7 m this) (BB ⟨⟨_,_,.tup⟩,Fc (!CX o1) () (!CX o2) q⟩)))))
theorem Yt(B:Ai)(R:Ah A 1)(P:AS σ L c){i:Nat}(e:c.nodes[i]? =some n)(m:c.nodes.length≤1000)(hk:n.2.length≤1000)(q:Φ (.tup (nats n.2)) σ):AF A (.ref 138) [.ref (L .bk),.int i] σ Φ:=by
 refine AF.def (F:=(Y9 w)) (names:=["self","n"]) B R rfl (fun Lf=>?_) (C9 fun zz zz=>rfl) rfl ∅
 ·have:=(BX.mp e).1;refine AJ (B8 (So (HG B () P.iB (JI w) JJ () (.list (P.at_ .nodes _ rfl)) (Eh (P.at_ .nodes _ rfl) (!A5 o0) (Y1 e) (!Am o7 m this) (BB ⟨1,rfl,⟨_,_,.tup⟩,JF.tup (a:=1) (!A9 _) (!Cu _) (by simp;exact ln hk rfl) q⟩)))))
theorem vR(B:Ai)(R:Ah A 7)(o:Cs x)(q:∀σ',Ap σ σ'→Φ .none σ'):AF A (.ref 105) [.ref bk,.str x] σ Φ:=by
 refine AX o.char fun ch m=>Bs m fun e1 e2 e3 n=>BN n fun e4 e5 e6=>?_;refine AF.def (F:=(fY w)) (names:=["self","op"]) B R rfl (fun Lf=>?_) (C9 fun zz zz=>rfl) rfl ∅
 ·refine AJ (CM (Le (HJ (Pn (Pr (Hr B (sB w) (cX w) (Aa (AG () (rU B (R.deeper _ |>.mono (!A9 _)) o fun a0 x1=>BO ?_)))))))));refine Ba Im ?_;refine HJ (Bg (CR (AG () (BB ⟨⟨_,_,.str⟩,Zbp (i:=0) (c:=ch) (by rw[e1];rfl) (!ld rfl) (DB (Jc (BO ?_)))⟩))));refine Ba e6 ?_;exact NH (by refine Ba rfl ?_;exact Ax (Ax (q a0 x1)))
abbrev LG(c:HS)(n:Nd)(w d:Int):HS:={c with nodes:=c.nodes++[n],nums:=c.nums++[(n,c.nodes.length)],wts:=c.wts++[w],dps:=c.dps++[d]}
theorem cR(n:Nd):AH (c.nums.map fun p=>(p.1.key,AV.int (p.2:Nat))) n.key=(AH c.nums n).map fun i=>.int (i:Nat):=N6 Nd.key (fun i=>AV.int (i:Nat)) (fun m m=>La) _ _
structure SE(c:HS):Prop where
 n:c.nodes.length≤1000
 w:c.wts.length=c.nodes.length
 d:c.dps.length=c.nodes.length
 m:c.nums.length=c.nodes.length
theorem Zi(B:Ai)(hh:A.handled=none)
  (I:Dm σ bk 174 dx 4 (G7 L))(ok:C7 w 174 m)(hf:G7 L m=some (.ref l))(e:σ l=some (.list (BI is)))(hk:∀k∈ks,k<is.length)(hz:is.length≤1000)(a0:ks.length≤1000)
  (hs:ρ "self"=some (.ref bk))(hx:ρ "node"=some (.tup (v0::nats ks)))
  (q:∀js:List Int,js.length=ks.length→∀D,σ D=none→hb.get? D=none→Φ (.ref D) (upd σ D (.list (BI js))))
  (hc:HX scope env "kid"=true)(k0:Cf (env.kindOf "node")=true)(a2:env.scope.kind=.function)(k1:∀C,Cf ((CQ scope env C).kindOf "self")=true)(k2:∀C,Cf ((CQ scope env C).kindOf "kid")=true)(k3:∀C,(CQ scope env C).scope.kind=.function)
  (he:autoParam (∀env,A0 (.Attribute (.Name "self" p1) m p2) env=(do
   let o ←A0 (.Name "self" p1) env
   Ck p2.atName
   let r ←CS [o] (Lm o m true)
   Ln (.Name "self" p1) o r
   pure r)) aW):
  EV A env (.ListComp (.Subscript (.Attribute (.Name "self" p1) m p2) (.Name "kid" p3) p4) [⟨.Name "kid" px,.Subscript (.Name "node" q1) (.Slice (some (.Constant (.int 1) n0 q2)) none none q3) q4,[],0⟩] scope a4) ρ σ Φ:=by
 refine Pi hh (Pg (NS hx (by rw[AU];exact a0) ⟨_,rfl,?_⟩ k0 a2)) hc;refine⟨trivial,_,Ss,by rw[AU];exact ln a0 rfl,fun v=>match v with|.int i=>.int (is[i.toNat]?.getD 0)|v=>v,fun v hv C=>?_,fun D nD nb=>?_⟩
 ·refine AI (BD.mp hv) fun k a3 n=>?_;subst n;have a1:=hk k a3;refine HG B (by rw[AN ⋯];exact hs) I ok hf As (.list e) (Eh e (!A5 o0) (x:=.int (is[k]?.getD 0)) ?_ (!Am o7 hz a1) ⟨rfl,rfl⟩) (k1 C) (k2 C) trivial (k3 C) ⋯ ⋯ he;rw[EN,CH,Dq a1];rfl
 ·have:(nats ks).map (fun v=>match v with|.int i=>AV.int (is[i.toNat]?.getD 0)|v=>v)=BI (ks.map fun k=>is[k]?.getD 0):=by
   show(ks.map _).map _=(ks.map _).map _;rw[Bu,Bu];rfl
  rw[this];exact q _ (!AU _) D nD nb
theorem Zaj(B:Ai)(R:Ah A 2)(P:AS σ L c)(e:AH c.nums n=some i)(hn:n.2.length≤1000)(q:Φ (.int i) σ):AF A (.ref 98) [.ref (L .bk),.str n.1,.tup (nats n.2)] σ Φ:=by
 refine GQ (F:=(Ql w)) (names:=["self","op","kids"]) B R rfl (fun Lf=>?_) (Js fun zz zz zz=>rfl) rfl ∅
 ·refine AJ (BR (CE (Bt (Aa (AG () ⟨!Cu _,Ez B (I3 w) JD (Aa (AG () (gU (NN (by simp;exact A5 QZ hn) ?_))))⟩)))));refine A2 ?_;have m:=P.at_ .numbers _ rfl;have e0:AV.tup ([AV.str n.1]++nats n.2)=Bw n.key:=(GH n).symm;rw[e0];have hl:=cR (c:=c) n;rw[e]at hl;refine AJ (CM (Bg (AG As (BM B () P.iB (Om w) Oo (gG (R.deeper _).u1 m P.n1.1 (BO ?_))))));rw[hl];refine AJ (B8 (HG B () P.iB (Om w) Oo As (.dictT m) (DT.get (R.deeper _).u1 m hl q)))
def V4(σ:AA)(A:Ab)(c:HS)(L:AY)(n:Nd)(Φ:AV→AA→Prop):Prop:=∀(B:Ai)(R:Ah A 8)(P:AS σ L c)(O:SE c)(e:AH c.nums n=none)(hn:n.2.length≤1000)(ho:Cs n.1)(hk:∀k∈n.2,k<c.nodes.length)(q:∀m d σ',AS σ' L (LG c n m d)→Fm σ c L σ' (LG c n m d) L→Φ (.int (c.nodes.length:Nat)) σ'),AF A (.ref 98) [.ref (L .bk),.str n.1,.tup (nats n.2)] σ Φ
def bu:((AA×Ab)×HS)×((AY×Nd)×(AV→AA→Prop))→Prop:=fun t=>V4 t.1.1.1 t.1.1.2 t.1.2 t.2.1.1 t.2.1.2 t.2.2
def Mt:=zE bu ((((fun _=>none),{}),Dy),(((fun _=>0),Bk),(fun _ _=>True)))
def pd:=Mt.1.1.1
def l9:=Mt.1.1.2
def DG:=Mt.1.2
def WI:=Mt.2.1.1
def Cw:=Mt.2.1.2
def uk:=Mt.2.2
theorem mR:V4 pd l9 DG WI Cw uk:=fun B R P O e hn ho hk q=>by
 refine GQ (F:=(Ql w)) (names:=["self","op","kids"]) B R rfl (fun Lf=>?_) (Js fun zz zz zz=>rfl) rfl ∅
 ·have sz:=O.n;have sw:=O.w;have sd:=O.d;have sm:=O.m;refine AJ (BR (CE (Bt (Aa (AG () ⟨!Cu _,Ez B (I3 w) JD (Aa (AG () (gU (NN (by simp;exact A5 QZ hn) ?_))))⟩)))));refine A2 ?_;have en:=P.at_ .numbers _ rfl;have e0:AV.tup ([AV.str Cw.1]++nats Cw.2)=Bw Cw.key:=(GH Cw).symm;have hl:=cR (c:=DG) Cw;rw[e]at hl;rw[e0];refine AJ (CM (Bg (AG As (BM B () P.iB (Om w) Oo (gG (R.deeper _ |>.mono (!ld rfl):Ah _ 1).u1 en P.n1.1 (BO ?_))))));rw[hl];refine Ax (AJ (Be (Bq B () P.iB () (yf w) (fY w) (Aa (AG () (vR B (R.deeper _ |>.mono (!A9 _)) ho fun a4 x1=>?_))))));have P1:=P.ext x1;have a1:put (B4 ["self","op","kids"] [.ref (WI .bk),.str Cw.1,.tup (nats Cw.2)]) "node" (Bw Cw.key) "node"=some (.tup (.str Cw.1::nats Cw.2)):=by rw[←GH];rfl
  refine AJ (Gl R.handled (Pg (NS a1 (by simp;exact hn) ⟨_,rfl,trivial,trivial,Cw.2.length,fun i ρ' σ'=>i≤Cw.2.length∧σ'=a4∧ρ' "self"=some (.ref (WI .bk))∧ρ' "node"=some (.tup (.str Cw.1::nats Cw.2)),⟨!Bc _,rfl,by rfl,a1⟩,?_⟩)));rintro i ρ' σ' ⟨hi,rfl,r1,r2⟩;refine⟨hi,_,rfl,?_⟩;have eN:=P1.at_ .nodes _ rfl;rw[CH];cases hq:Cw.2[i]? with
  |some k=>
   have a6:=hk k (C6 hq);have a7:=(BX.mp hq).1;refine A2 ?_;refine AJ (CM (Pn (gm (BB (AG As (XQ (BO ?_)))))));have:decide ((0:Int)≤(k:Nat))=true:=decide_eq_true (!A5 o0);refine CN this ?_;refine Bl B (CW w) CV (Aa (BM B (by rw[AN ⋯];exact r1) P1.iB (JI w) JJ (Ce eN (by rw[AU];exact ln sz rfl) (NP (BO ?_)))));rw[AU];have:decide (((k:Nat):Int)<(DG.nodes.length:Nat))=true:=decide_eq_true (!Am VS a6);rw[this];refine Ba Im ?_;exact Ax (Ax ⟨!a7,rfl,by rw[AN ⋯];exact r1,by rw[AN ⋯];exact r2⟩)
  |none=>
   have en:=P1.at_ .numbers _ rfl;have e1:ρ' "node"=some (Bw Cw.key):=by rw[GH];exact r2
   refine AJ (BR (Bl B (CW w) CV (Aa (BM B r1 P1.iB (JI w) JJ (Ce eN (by rw[AU];exact ln sz rfl) (KR (BM B r1 P1.iB (Om w) Oo (AG e1 (DT.set (R.deeper _ |>.mono (!ld rfl):Ah _ 1).u1 en (by simp;exact ln (AK (Ac sm) sz) rfl) ?_)))))))));rw[AU];have pk:Aw (DG.nums.map fun p=>(p.1.key,AV.int (p.2:Nat))) Cw.key (.int (DG.nodes.length:Nat))=(DG.nums++[(Cw,DG.nodes.length)]).map fun p=>(p.1.key,AV.int (p.2:Nat)):=by
    unfold Aw;rw[hl];simp
   rw[pk];refine Cz P1 .numbers (c':={DG with nums:=DG.nums++[(Cw,DG.nodes.length)]}) (!rfl) fun d1 P2 F2 zz=>?_;have eN:=P2.at_ .nodes _ rfl;refine AJ (Be (CY Fj Fk (BM B r1 P2.iB (JI w) JJ ⟨rfl,eN,Aa (AG e1 (E7 eN (by rw[AU];show DG.nodes.length≤_;exact ln sz rfl) ?_))⟩)));refine Cz P2 .nodes (c':={DG with nums:=DG.nums++[(Cw,DG.nodes.length)],nodes:=DG.nodes++[Cw]}) (by first|exact Ag _|(show some _=some _;simp)) fun c6 P3 F3 zz=>?_
   have eW:=P3.at_ .wts _ rfl;refine AJ (Be (CY Fj Fk (BM B r1 P3.iB (U1 w) Wb ⟨rfl,eW,Aa (CE (BB (Bl B (Z0 w) eA (Aa
    (Zi B R.handled P3.iB (U1 w) Wb eW (by rw[sw];exact hk) (by rw[sw];exact sz) hn r1 r2 (fun js hj D nD nb=>?_) () () () (fun zz=>by rfl) (fun zz=>by rfl) (fun zz=>by rfl))))))⟩)))
   refine LR P3 nD fun d2 hD P4 F4 nf ks=>?_;refine Zd1 R.handled hD (Jd ?_);have eW:=P4.at_ .wts _ rfl;refine E7 eW (by simp;show DG.wts.length≤_;exact ln (AK (Ac sw) sz) rfl) ?_;refine Cz P4 .wts (c':={DG with nums:=DG.nums++[(Cw,DG.nodes.length)],nodes:=DG.nodes++[Cw],wts:=DG.wts++[1+js.sum]}) (by first|exact Ag _|(show some _=some _;simp)) fun c8 P5 F5 zz=>?_
   have eD:=P5.at_ .dps _ rfl;refine AJ (Be (CY Fj Fk (BM B r1 P5.iB (UM w) V2 ⟨rfl,eD,Aa (CE (BB (Bl B (WP w) Wr (Aa (CE
    (Zi B R.handled P5.iB (UM w) V2 eD (by rw[sd];exact hk) (by rw[sd];exact sz) hn r1 r2 (fun a2 a8 E nE c3=>?_) () () () (fun zz=>by rfl) (fun zz=>by rfl) (fun zz=>by rfl)))))))⟩)))
   refine Zbu P5 nE fun c1 hE P6 F6 c4 c9=>?_;refine DU (Aa (BB ⟨!Cu _,fun E2 a0 b4=>?_⟩));refine gH P6 a0 fun b3 a5 P7 F7 b7 a3=>?_;have a9:b3 E=some (.list (BI a2)):=by rw[a3 E (by rintro rfl;exact Au ((a0.symm.trans hE)))];exact hE
   refine KN a9 a5 (by simp;exact ln (AK (Ac a8) hn) rfl) fun E3 b1 b5=>?_;refine LR P7 b1 fun b6 b0 P8 F8 c2 c5=>?_;refine Zc1 (is:=a2++[0]) R.handled (by rw[b0];simp) (by simp) fun d=>Jd ?_;have eD:=P8.at_ .dps _ rfl;refine E7 eD (by simp;show DG.dps.length≤_;exact ln (AK (Ac sd) sz) rfl) ?_;refine Cz P8 .dps (c':=LG DG Cw (1+js.sum) (1+d)) (by first|exact Ag _|(show some _=some _;simp)) fun b2 P9 F9 zz=>?_
   have eN:=P9.at_ .nodes _ rfl;refine AJ (B8 (CE (Bl B (CW w) CV (Aa (BM B r1 P9.iB (JI w) JJ (Ce eN (by rw[AU,BJ,C5];exact ln (CD sz) rfl) (BB (NL ?_))))))));have:=q _ _ b2 P9 (x1.fm.trans (F2.trans (F3.trans (F4.trans (F5.trans (F6.trans (F7.trans (F8.trans F9))))))));have e9:(((DG.nodes++[Cw]).map fun Cw=>Bw Cw.key).length:Int)-1=(DG.nodes.length:Nat):=by simp
   rw[e9];exact this
theorem jT{σ A c L n Φ}:V4 σ A c L n Φ:=@zF _ bu _ @mR (((σ,A),c),((L,n),Φ))
def DictAt(σ:AA)(l:AB):Prop:=(∃es,σ l=some (.dictI es))∨(∃es,σ l=some (.dictS es))∨∃es,σ l=some (.dictT es)
theorem NJ{o:Expr}{a0 n:A8}{args:List Expr}{name:Str}{id:String}{l:AB}{Φ:AV→AA→Prop}(a1:Nr "dict" name id)(a3:Nc (.builtin id)=pure (.type "method_descriptor"))
  (k:EV A env o ρ σ fun ov m=>ov=.ref l∧DictAt m l∧AC A env n args ρ m fun ys σ₂=>AF A (.builtin id) (.ref l::ys) σ₂ Φ)(hp:autoParam (CJ args=true) aR)
  {pl:Sem Bool}(he:autoParam (A0 (.Call (.Attribute o name a0) args [] n) env=(do
   let ov ←A0 o env
   Ck a0.atName
   let(f,first) ←CS [ov] (GT ov name pl)
   EK n f first (Df n (BZ args env)) (Hv n (Hw [] env)))) aR):
  EV A env (.Call (.Attribute o name a0) args [] n) ρ σ Φ:=
 Sq Zdd a1 a3 (k.mono fun ov m a2=>BN a2 fun e1 sa q=>by
  subst e1;refine⟨fun s u g r=>?_,q⟩;obtain rfl:=VR.inv_ref r;have:∃ob,s.heap.get? l=some ob∧ob.ExactDict:=by
   rcases sa with⟨es,e⟩|⟨es,e⟩|⟨es,e⟩
   ·refine Jy ((g.own _ _ e).2) fun kvs o zz zz ho hx zz zz=>?_;exact⟨o,ho,hx⟩
   ·refine Jy ((g.own _ _ e).2) fun kvs o zz zz ho hx zz zz=>?_;exact⟨o,ho,hx⟩
   ·refine Jy ((g.own _ _ e).2) fun kvs o zz zz ho hx zz zz=>?_;exact⟨o,ho,hx⟩
  refine AI this fun ob ho hx=>?_;exact⟨⟨_,ho,hx.1⟩,fun a e=>by obtain rfl:=TQ e;exact⟨ob,ho,hx.2.1⟩⟩) hp he
abbrev IC(c:HS)(n:Nd):HS:={c with nodes:=c.nodes.dropLast,nums:=BP c.nums n,wts:=c.wts.dropLast,dps:=c.dps.dropLast}
theorem ZQ:∀{xs:List α},xs≠[]→∃x,xs=xs.dropLast++[x]:=fun{xs} h=>⟨xs.getLast h,(List.dropLast_concat_getLast h).symm⟩
theorem cW{ρ':AW}{m:Nat}{Φ:Bool→AA→Prop}{p1 p2 p3 p4 p5 p6 p7 p8 p9:A8}{k:Nat}(B:Ai)(hh:A.handled=none)(P:AS σ L c)(hz:c.nodes.length≤1000)(r1:ρ' "self"=some (.ref (L .bk)))(n:ρ' "many"=some (.int (m:Nat)))(q:Φ (decide (m<c.nodes.length)) σ):
  TR A (BA (dU w) Lf 124) (.Compare (.Call (.Name "len" p1) [.Attribute (.Name "self" p2) "nodes" p3] [] p4) [.Gt] [.Call (.Name "max" p5) [.Name "many" p6,.Constant (.int 0) k p7] [] p8] p9) ρ' σ Φ:=by
 have e:=P.at_ .nodes _ rfl;refine Bg (Bl B (CW w) CV (Aa (BM B r1 P.iB (JI w) JJ (Ce e (by rw[AU];exact ln hz rfl) (Bl B (WP w) Wr (BW (AG n (BB (gZ hh ?_)))))))));have:(if(0:Int)>(m:Nat)then(0:Int)else(m:Nat))=(m:Nat):=if_neg (!A5 bG);rw[this,AU];refine KQ (BO ?_);have:decide (((m:Nat):Int)<(c.nodes.length:Nat))=decide (m<c.nodes.length):=by simp
 rw[this];exact q
def Uu(A:Ab)(c:HS)(L:AY)(n:Nd)(ns:List Nd)(Φ:AV→AA→Prop):Prop:=∀{σ:AA}(B:Ai)(R:Ah A 2)(P:AS σ L c)(O:SE c)(h1:c.nodes=ns++[n])(m:(AH c.nums n).isSome=true)(q:∀σ',AS σ' L (IC c n)→Fm σ c L σ' (IC c n) L→Φ .none σ'),AF A (.ref 124) [.ref (L .bk),.int (ns.length:Nat)] σ Φ
def gA:((Ab×HS)×AY)×((Nd×List Nd)×(AV→AA→Prop))→Prop:=fun t=>Uu t.1.1.1 t.1.1.2 t.1.2 t.2.1.1 t.2.1.2 t.2.2
def Mr:=zE gA ((({},Dy),(fun _=>0)),((Bk,[]),(fun _ _=>True)))
def tj:=Mr.1.1.1
def DP:=Mr.1.1.2
def IZ:=Mr.1.2
def HF:=Mr.2.1.1
def IN:=Mr.2.1.2
def nZ:=Mr.2.2
theorem zo:Uu tj DP IZ HF IN nZ:=fun{σ} B R P O h1 h2 q=>by
 have sz:=O.n;have sw:=O.w;have sd:=O.d;have sm:=O.m;have hl:DP.nodes.length=IN.length+1:=by rw[h1];simp
 refine AX (ZQ (xs:=DP.wts) (by intro e;rw[e]at sw;simp at sw;exact Am fN sw hl)) fun x hx=>?_;refine AX (ZQ (xs:=DP.dps) (by intro e;rw[e]at sd;simp at sd;exact Am fN sd hl)) fun y hy=>?_;have lw:DP.wts.dropLast.length≤1000:=by simp;exact ln (AK (Ac sw) sz) rfl
 have ld:DP.dps.dropLast.length≤1000:=by simp;exact ln (AK (Ac sd) sz) rfl
 have hd:DP.nodes.dropLast=IN:=by rw[h1];simp
 generalize hw:DP.wts.dropLast=ws at*;generalize a4:DP.dps.dropLast=ds at*;refine AF.def (F:=(vF w)) (names:=["self","many"]) B R rfl (fun Lf=>?_) (C9 fun zz zz=>rfl) rfl ∅
 ·refine AJ (LS (fun k ρ' σ'=>(k=1∧σ'=σ∧ρ'=B4 ["self","many"] [.ref (IZ .bk),.int (IN.length:Nat)])∨(k=0∧ρ' "self"=some (.ref (IZ .bk))∧ρ' "many"=some (.int (IN.length:Nat))∧
   AS σ' IZ (IC DP HF)∧Fm σ DP IZ σ' (IC DP HF) IZ)) 1 (.inl ⟨rfl,rfl,rfl⟩) ?_)
  rintro k ρ' σ' (⟨rfl,rfl,rfl⟩|⟨rfl,r1,r2,P',F'⟩)
  ·refine cW B R.handled P sz () () ?_;refine CN (decide_eq_true (!Am mN hl)) ?_;have eN:=P.at_ .nodes _ rfl;have a1:σ' (IZ .nodes)=some (.list (IN.map (fun HF=>Bw HF.key)++[Bw HF.key])):=by rw[eN,h1,Cr];rfl
   have eU:=P.at_ .numbers _ rfl;refine AJ (Be (NJ (l:=IZ .numbers) Xo Ze4 (BM B () P.iB (Om w) Oo ⟨rfl,.inr (.inr ⟨_,eU⟩),Aa
    (CY FO Fl (BM B () P.iB (JI w) JJ ⟨rfl,a1,AC.nil (FJ a1 (by rw[AU];exact ln (AK (Ct (Ac hl.symm)) sz) rfl) ?_)⟩))⟩)))
   refine gS P .nodes (c':={DP with nodes:=IN}) (by first|exact Ag _|(show some _=some _;simp)) fun a7 P1 F1 zz=>?_
   have eU:=P1.at_ .numbers _ rfl;refine AX (Ll.mp h2) fun i hi=>?_;have a0:=N6 Nd.key (fun i=>AV.int (i:Nat)) (fun zz zz=>La) DP.nums HF;rw[hi]at a0;refine DT.pop (R.deeper _).u1 eU (by simp;exact ln (AK (Ac sm) sz) rfl) a0 ?_;rw[am Nd.key (fun i=>AV.int (i:Nat)) (fun zz zz=>La)];refine Cz P1 .numbers (c':={DP with nodes:=IN,nums:=BP DP.nums HF}) (by first|exact Ag _|(show some _=some _;simp)) fun a5 P2 F2 zz=>?_
   have eW:=P2.at_ .wts _ rfl;have a2:a5 (IZ .wts)=some (.list (BI ws++[.int x])):=by rw[eW];show some (AO.list (BI DP.wts))=_;rw[hx];simp
   refine AJ (Be (CY FO Fl (BM B () P2.iB (U1 w) Wb ⟨rfl,a2,AC.nil (FJ a2 (by simp;exact ln lw rfl) ?_)⟩)));refine Cz P2 .wts (c':={DP with nodes:=IN,nums:=BP DP.nums HF,wts:=ws}) (by first|exact Ag _|(show some _=some _;simp)) fun a6 P3 F3 zz=>?_
   have eD:=P3.at_ .dps _ rfl;have a3:a6 (IZ .dps)=some (.list (BI ds++[.int y])):=by rw[eD];show some (AO.list (BI DP.dps))=_;rw[hy];simp
   refine AJ (Be (CY FO Fl (BM B () P3.iB (UM w) V2 ⟨rfl,a3,AC.nil (FJ a3 (by simp;exact ln ld rfl) ?_)⟩)));have hc:IC DP HF={DP with nodes:=IN,nums:=BP DP.nums HF,wts:=ws,dps:=ds}:=by simp only[IC,hd,hw,a4]
   refine Cz P3 .dps (c':=IC DP HF) (by rw[hc];show some _=some _;simp) (fun a8 P4 F4 zz=>?_) (by first|exact Ag _|(show some _=some _;simp)) (by rw[hc];exact cs rfl)
   exact Ax ⟨0,!A9 _,.inr ⟨rfl,by rfl,by rfl,P4,F1.trans (F2.trans (F3.trans F4))⟩⟩
  ·refine cW B R.handled P' (by simp;exact ln sz rfl) r1 r2 ?_;refine Ba (decide_eq_false (by simp;exact Am qF hl)) ?_;exact Ax (q σ' P' F')
theorem tU{A c L n ns Φ}:Uu A c L n ns Φ:=@zF _ gA _ @zo (((A,c),L),((n,ns),Φ))
theorem Cy{x m name:Str}(B:Ai)(hx:ρ x=some (.ref a))(I:Dm σ a C dx n fs)(ok:C7 w C m)(hf:fs m=some (.ref b))
  (I2:Dm σ b C2 a5 n2 a3)(hn:a3 name=none)(M:B1 w C2 name f)(F:Ak w f fd)
  (k:AC A env a0 args ρ σ fun xs σ₂=>AF A (.ref f) (.ref b::xs) σ₂ Φ)(hk:autoParam (Cf (env.kindOf x)=true) aR)(a2:autoParam (env.scope.kind=.function) aR)(hd:autoParam ((x==("__debug__":Str))=false) aD)(hp:autoParam (CJ args=true) aR)
  (a4:autoParam (∀env,A0 (.Attribute (.Name x p) m p2) env=(do
   let o ←A0 (.Name x p) env
   Ck p2.atName
   let r ←CS [o] (Lm o m true)
   Ln (.Name x p) o r
   pure r)) aW)
  (he:autoParam (A0 (.Call (.Attribute (.Attribute (.Name x p) m p2) name a1) args [] a0) env=(do
   let ov ←A0 (.Attribute (.Name x p) m p2) env
   Ck a1.atName
   let(f,first) ←CS [ov] (GT ov name pl)
   EK a0 f first (Df a0 (BZ args env)) (Hv a0 (Hw [] env)))) aR):
  EV A env (.Call (.Attribute (.Attribute (.Name x p) m p2) name a1) args [] a0) ρ σ Φ:=
 W7 B (BM B hx I ok hf ⟨_,_,_,_,_,_,_,rfl,I2,hn,M,F,k⟩ hk trivial a2 hd a4) hp he
theorem K0:DM c L "bank"=some (.ref (L .bk)):=by rfl
theorem JB:DM c L "unions"=some (.ref (L .un)):=by rfl
theorem PD:DM c L "edges"=some (.ref (L .edges)):=by rfl
theorem Uc:DM c L "forest"=some (.ref (L .forest)):=by rfl
theorem R3:DM c L "known"=some (.ref (L .known)):=by rfl
theorem GJ:DM c L "above"=some (.ref (L .above)):=by rfl
theorem M3:DM c L "waiting"=some (.ref (L .waiting)):=by rfl
theorem cY:DM c L "backs"=some (.int c.backs):=by rfl
theorem JE:DM c L "changes"=some (.ref (L .changes)):=by rfl
theorem RM:DM c L "marks"=some (.ref (L .marks)):=by rfl
theorem WH:DM c L "made"=some (.int (c.made:Nat)):=by rfl
theorem Op(B:Ai)(R:Ah A 2)(P:AS σ L c)(m:c.nodes.length≤1000)(q:Φ (.int (c.nodes.length:Nat)) σ):AF A (.ref 281) [.ref (L .hp)] σ Φ:=by
 refine AF.def (F:=(MH w)) (names:=["self"]) B R rfl (fun Lf=>?_) (FG fun n=>rfl) rfl ∅
 ·exact AJ (B8 (Cy B () P.iH (Kr w) K0 P.iB () (vz w) (eY w) (AC.nil (nv B (R.deeper _) P m q))))
theorem HD(B:Ai)(R:Ah A 2)(P:AS σ L c)(U:By c.uab)(m:a<c.uab.length)(q:Φ (.int (c.find a:Nat)) σ):AF A (.ref 310) [.ref (L .hp),.int a] σ Φ:=by
 refine AF.def (F:=(Hb w)) (names:=["self","n"]) B R rfl (fun Lf=>?_) (C9 fun n n=>rfl) rfl ∅
 ·exact AJ (B8 (Cy B () P.iH (I6 w) JB P.iU () (Rk w) (PF w) (Aa (AG () (Qz B (R.deeper _) P U m q)))))
theorem w4(B:Ai)(R:Ah A 3)(P:AS σ L c)(U:By c.uab)(ha:a<c.uab.length)(m:b<c.uab.length)(q:Φ (.bool (decide (c.find a=c.find b))) σ):AF A (.ref 317) [.ref (L .hp),.int a,.int b] σ Φ:=by
 refine AF.def (F:=(bV w)) (names:=["self","a","b"]) B R rfl (fun Lf=>?_) (Js fun n n n=>rfl) rfl ∅
 ·refine AJ (B8 (NA (Bq B () P.iH () (G8 w) (Hb w) (Aa (AG () (HD B (R.deeper _) P U ha
   (Bq B () P.iH () (G8 w) (Hb w) (Aa (AG () (HD B (R.deeper _) P U m (HH ?_)))))))))))
  have:decide (((c.find a:Nat):Int)=(c.find b:Nat))=decide (c.find a=c.find b):=decide_eq_decide.mpr (!Am bR);rw[this];exact q
theorem Sf(B:Ai)(R:Ah A 3)(P:AS σ L c)(U:By c.uab)
  (q:∀D σ',σ' D=some (.list (nats ((B3 c.uab.length).filter fun a=>decide (c.uab[a]? =some a))))→σ D=none→AS σ' L c→Fm σ c L σ' c L→Φ (.ref D) σ'):AF A (.ref 352) [.ref (L .hp)] σ Φ:=by
 refine AF.def (F:=(Os w)) (names:=["self"]) B R rfl (fun Lf=>?_) (FG fun m=>rfl) rfl ∅
 ·exact AJ (B8 (Cy B () P.iH (I6 w) JB P.iU () (vt w) (bB w) (AC.nil (jf B (R.deeper _) P U q))))
theorem XM{nd:Nd}(e:c.nodes[n]? =some nd):c.canon n=(nd.1,nd.2.map c.find):=by
 unfold HS.canon HS.nd;rw[e];rfl
theorem Sp(B:Ai){ks:List Nat}{x:Str}{n:Expr}{scope:C1}{a3 p1 p2 p3 p4 px:A8}{Φ:AV→AA→Prop}(R:Ah A 2)
  (k:EV A env n ρ σ fun v m=>v=.tup (nats ks)∧AS m L c∧By c.uab∧(∀k∈ks,k<c.uab.length)∧ks.length≤1000∧∀D,m D=none→hb.get? D=none→Φ (.ref D) (upd m D (.list (nats (ks.map c.find)))))
  (hs:ρ "self"=some (.ref (L .hp)))(a5:x≠("self":Str))(hc:HX scope env x=true)(k1:∀C,Cf ((CQ scope env C).kindOf "self")=true)(k2:∀C,Cf ((CQ scope env C).kindOf x)=true)(k3:∀C,(CQ scope env C).scope.kind=.function)(hd:(x==("__debug__":Str))=false)
  (a6:autoParam (∀x,Gw n env x=pure x) aI)
  (he:∀(env:Af),∃pl:Sem Bool,A0 (.Call (.Attribute (.Name "self" p1) "find" p2) [.Name x p3] [] p4) env=(do
   let ov ←A0 (.Name "self" p1) env
   Ck p2.atName
   let(f,first) ←CS [ov] (GT ov "find" pl)
   EK p4 f first (Df p4 (BZ [.Name x p3] env)) (Hv p4 (Hw [] env))):=by intro zz;exact⟨_,rfl⟩):
  EV A env (.ListComp (.Call (.Attribute (.Name "self" p1) "find" p2) [.Name x p3] [] p4) [⟨.Name x px,n,[],0⟩] scope a3) ρ σ Φ:=by
 refine Pi R.handled (Pg (k.mono fun v m a0=>Bs a0 fun e1 P U a2=>BN a2 fun hk hl q=>⟨nats ks,e1,trivial,_,Ss,by rw[AU];exact ln hl rfl,fun v=>match v with|.int i=>.int (c.find i.toNat:Nat)|v=>v,fun v hv C=>?_,fun D nD nb=>?_⟩)) hc a6
 ·refine AI (BD.mp hv) fun j hj a1=>?_;subst a1;refine AX (he (CQ scope env C)) fun pl a4=>?_;refine Bq B (by rw[AN (Ne.symm a5)];show(if _ then _ else _)=_;rw[if_neg ⋯];exact hs) P.iH () (G8 w) (Hb w) (Aa (AG As (HD B R P U (hk j hj) ⟨rfl,rfl⟩) (k2 C) (k3 C) hd)) (k1 C) (k3 C) ⋯ () (pl:=pl) a4
 ·have:(nats ks).map (fun v=>match v with|.int i=>AV.int (c.find i.toNat:Nat)|v=>v)=nats (ks.map c.find):=by
   show(ks.map _).map _=(ks.map _).map _;rw[Bu,Bu];rfl
  rw[this];exact q D nD nb
theorem cI(B:Ai)(R:Ah A 3)(P:AS σ L c)(U:By c.uab){n:Nat}{nd:Nd}(e:c.nodes[n]? =some nd)(hn:c.nodes.length≤1000)(hk:∀k∈nd.2,k<c.uab.length)(hl:nd.2.length≤1000)
  (q:∀σ',Ap σ σ'→Φ (Bw (c.canon n).key) σ'):AF A (.ref 286) [.ref (L .hp),.int n] σ Φ:=by
 refine GQ (F:=(kb w)) (names:=["self","n"]) B R rfl (fun Lf=>?_) (C9 fun m m=>rfl) rfl ∅
 ·refine AJ (B8 (CE (Bt (Aa (Cy B () P.iH (Kr w) K0 P.iB () (j3 w) (YU w) (Aa (AG () (lc B (R.up rfl) P e hn ⟨!Cu _,Ez B (I3 w) JD (Aa
   (Sp B (x:="kid") (ks:=nd.2) (R.deeper _) (Cy B () P.iH (Kr w) K0 P.iB () (Zo w) (Y9 w) (Aa (AG () (Yt B (R.up rfl) P e hn hl ⟨rfl,P,U,hk,hl,fun D nD nb=>?_⟩))))
    () ⋯ () (fun m=>by rfl) (fun m=>by rfl) (fun m=>by rfl) ⋯))⟩))))))))
  refine LZ (Ao _ _ _) (by rw[AU,AU];exact ln hl rfl) (NN (by rw[AU,AU];simp;exact A5 QZ hl) ?_);rw[XM e,GH]at q;exact q _ (.new nD)
theorem Qk(F:Nat→AV):∀(xs:List (Nat×V))(k:Nat),AH (xs.map fun p=>((p.1:Int),F p.1)) (k:Int)=(AH xs k).map fun n=>F k:=by
 intro xs
 induction xs with
 |nil=>
  intro _;exact rfl
 |cons p xs m=>
  intro k;rw[CB,FT,FT,m k];by_cases h:p.1=k
  ·subst h;simp
  ·rw[if_neg h,if_neg (fun e=>h (i6 e))]
theorem H8(P:AS σ L c)(e:AH c.abo k=some l):σ (L (.abv k))=some (.list (nats l)):=P.at_ (.abv k) _ (by show YH _ _=_;rw[e];rfl)
theorem Ho(e:AH c.abo k=some l):AH (c.abo.map fun p=>((p.1:Int),AV.ref (L (.abv p.1)))) (k:Int)=some (.ref (L (.abv k))):=by
 rw[Qk (fun i=>AV.ref (L (.abv i))),e];rfl
theorem pV(h:js.Pairwise (· <·))(hm:∀k:Int,k∈js↔k∈ns.map fun(n:Nat)=>(n:Int)):js=(ss ns).map fun(n:Nat)=>(n:Int):=by
 have hn:∀k∈js,0≤k:=fun k hk=>by
  refine AI (BD.mp ((hm k).mp hk)) fun n zz a1=>?_;subst a1;exact Xq n
 have e:js=(js.map Int.toNat).map fun(n:Nat)=>(n:Int):=by
  rw[Bu];have:∀k∈js,k=((fun(n:Nat)=>(n:Int))∘Int.toNat) k:=fun k hk=>by show k=((k.toNat:Nat):Int);rw[XU (hn k hk)]
  exact(Dr this▸QQ js).symm
 rw[e];refine congrArg _ (UF ?_ (Pd ns) fun z=>?_)
 ·refine Nf.mpr ?_;exact(h.imp_of_mem fun{a b} ha hb a2=>by have:=hn a ha;have:=hn b hb;exact tE a2 (by assumption))
 ·rw[M5];constructor
  ·intro q;refine AI (BD.mp q) fun k hk a0=>?_;subst a0;refine AI (BD.mp ((hm k).mp hk)) fun n a3 m=>?_;subst m;simpa using a3
  ·intro q;exact BD.mpr ⟨(z:Int),(hm z).mpr (BD.mpr ⟨z,q,rfl⟩),EN z⟩
theorem w3(w:AD):Cj (KK w) Bh "set"=some none:=∅
theorem yL:Gr "set"=some (.type "set"):=∅
theorem Su{p1 p2 q1 q2:A8}{x:Expr}{Φ:AV→AA→Prop}(B:Ai)(hh:A.handled=none)
  (k:EV A env x ρ σ fun v σ₂=>∃l ns,v=.ref l∧σ₂ l=some (.list (nats ns))∧ns.length<64∧∀D,σ₂ D=none→hb.get? D=none→Φ (.ref D) (upd σ₂ D (.list (nats (Internal.ss ns)))))
  (h1:autoParam (env.kindOf "sorted"=some .globalImplicit) aR)(h2:autoParam (env.kindOf "set"=some .globalImplicit) aR)(hk:autoParam (env.scope.kind=.function) aR)(hg:autoParam (env.globals=Bh) aR)(a1:autoParam (env.builtins=TH) aR)
  (hp:autoParam (CJ [x]=true) aR)(he:autoParam (∀env,BZ [.Call (.Name "set" p2) [x] [] q2] env=[(false,A0 (.Call (.Name "set" p2) [x] [] q2) env)]) aI)(hx:autoParam (∀env,BZ [x] env=(false,A0 x env)::BZ [] env) aI):
  EV A env (.Call (.Name "sorted" p1) [.Call (.Name "set" p2) [x] [] q2] [] q1) ρ σ Φ:=
 Zaz hh (Fd B (Mq w) MI ⟨rfl,Fd B (w3 w) yL ⟨rfl,k.mono fun v σ₂ m=>Bx m fun l ns a0=>Bs a0 fun e1 e2 a2 q=>⟨l,ns.map fun(n:Nat)=>(n:Int),e1,by rw[e2,Q2],by simpa using a2,fun js ha hm D nD nb=>by
  have:=q D nD nb;rw[pV ha hm,←Q2];exact this⟩⟩ ⋯ h2 hk hg a1⟩ ⋯ h1 hk hg a1) hp he hx
theorem x9(B:Ai)(R:Ah A 3)(P:AS σ L c)(U:By c.uab){a:Nat}(ha:a<c.uab.length){l:List Nat}(hl:AH c.abo (c.find a)=some l)(m:l.length<64){Φ:AV→AA→Prop}
  (q:∀D σ',σ' D=some (.list (nats (ss l)))→σ D=none→Ap σ σ'→Φ (.ref D) σ'):AF A (.ref 385) [.ref (L .hp),.int a] σ Φ:=by
 refine AF.def (F:=(aV w)) (names:=["self","c"]) B R rfl (fun Lf=>?_) (C9 fun zz zz=>rfl) rfl ∅
 ·have e:=P.at_ .above _ rfl;refine AJ (B8 (Su B R.handled (CR (BM B () P.iH (Fn w) GJ (Bq B () P.iH () (G8 w) (Hb w) (Aa (AG () (HD B (R.deeper _) P U ha ⟨⟨_,_,.dictI e⟩,DK.get (FR w) e (Ho hl) ⟨_,l,rfl,H8 P hl,m,fun D n nb=>?_⟩⟩))))))));exact q D _ (Ao _ _ _) n (.new n)
theorem SB(k:Nd):AH (c.known.map fun p=>(p.1.key,AV.int (p.2:Nat))) k.key=(AH c.known k).map fun i=>.int (i:Nat):=N6 Nd.key (fun i=>AV.int (i:Nat)) (fun m m=>La) _ _
theorem zD(B:Ai)(R:Ah A 3)(P:AS σ L c)(U:By c.uab)(hk:∀k∈ks,k<c.uab.length)(hl:ks.length≤1000)(hm:∀n,AH c.known (op,ks.map c.find)=some n→n<c.uab.length)
  (q:∀σ',Ap σ σ'→Φ (.int (match AH c.known (op,ks.map c.find)with|some n=>(c.find n:Nat)|none=>-1)) σ'):AF A (.ref 378) [.ref (L .hp),.str op,.tup (nats ks)] σ Φ:=by
 refine GQ (F:=(Yv w)) (names:=["self","op","classes"]) B R rfl (fun Lf=>?_) (Js fun zz zz zz=>rfl) rfl ∅
 ·refine AJ (BR (NJ (l:=L .known) PySem.F.slot_dict_get PySem.F.type_dict_get (BM B () P.iH (SG w) R3 ⟨rfl,.inr (.inr ⟨_,P.at_ .known _ rfl⟩),BW (CE (Bt (Aa (AG () ⟨!Cu _,Ez B (I3 w) JD (Aa
   (Sp B (x:="c") (ks:=ks) (R.deeper _) (AG () ⟨rfl,P,U,hk,hl,fun D nD nb=>?_⟩) () ⋯ () (fun zz=>by rfl) (fun zz=>by rfl) (fun zz=>by rfl) ⋯))⟩))))⟩)))
  refine LZ (Ao _ _ _) (by rw[AU,AU];exact ln hl rfl) (NN (by rw[AU,AU];simp;exact A5 QZ hl) ?_);have P1:=P.ext (.new (x:=.list (nats (ks.map c.find))) nD);have e0:AV.tup ([AV.str op]++nats (ks.map c.find))=Bw (Nd.key (op,ks.map c.find)):=(GH (op,ks.map c.find)).symm;rw[e0];refine Ph (BB (Pf ?_));refine Zcv (R.deeper _ |>.mono (!ld rfl):Ah _ 1).u1 (P1.at_ .known _ rfl) P1.n1.2.1 ?_;rw[SB];have q':=q _ (.new (x:=.list (nats (ks.map c.find))) nD);cases hq:AH c.known (op,ks.map c.find)with
  |none=>
   rw[hq]at q';refine A2 (AJ (B8 (ND (Bg (AG As (BB (NP (BO ?_))))))));have:decide ((-1:Int)<0)=true:=rfl;refine CN this ?_;exact Ph (BB (Pf q'))
  |some m=>
   rw[hq]at q';have a0:=hm m hq;refine A2 (AJ (B8 (ND (Bg (AG As (BB (NP (BO ?_))))))));have:decide (((m:Nat):Int)<0)=false:=decide_eq_false (!A5 uO);refine Ba this ?_;exact Bq B () P1.iH () (G8 w) (Hb w) (Aa (AG As (HD B (R.deeper _) P1 U a0 q')))
theorem qv(w:AD):On w (Z6 w) 396 460 "self":=
 ⟨⟨_,by rfl,by rfl⟩,⟨444,_,_,_,_,_,_,by rfl,rfl,by rfl,∅⟩,⟨_,_,_,rfl⟩,⟨_,rfl⟩,∅,∅,∅,∅⟩
theorem wn(w:AD):On w (ez w) 396 460 "self":=
 ⟨⟨_,by rfl,by rfl⟩,⟨436,_,_,_,_,_,_,by rfl,rfl,by rfl,∅⟩,⟨_,_,_,rfl⟩,⟨_,rfl⟩,∅,∅,∅,∅⟩
theorem yN(w:AD):On w (bH w) 396 460 "self":=
 ⟨⟨_,by rfl,by rfl⟩,⟨407,_,_,_,_,_,_,by rfl,rfl,by rfl,∅⟩,⟨_,_,_,rfl⟩,⟨_,rfl⟩,∅,∅,∅,∅⟩
theorem U5(w:AD):(KK w).lookup 460≠none:=by
 intro h;have:((KK w).lookup 460).isSome=true:=∅
 rw[h]at this;cases this
theorem kZ(w:AD):SN w 460 460 "join" 331:=⟨∅,∅,∅,∅,by decide,U5 w⟩
theorem sg(w:AD):SN w 460 460 "look_at" 303:=⟨∅,∅,∅,∅,by decide,U5 w⟩
theorem rh(w:AD):SN w 460 460 "__init__" 274:=⟨∅,∅,∅,∅,by decide,U5 w⟩
structure Dw(c:HS):Prop where
 U:By c.uab
 O:N9 c
 B:SE c
 nl:c.nodes.length=c.uab.length
 kids:∀(n:Nat)(nd:Nd),c.nodes[n]? =some nd→nd.2.length≤2∧∀k∈nd.2,k<c.uab.length
 abo:∀i:Nat,c.uab[i]? =some i→∃l,AH c.abo i=some l∧l.length≤40
 kn:∀k n,AH c.known k=some n→n<c.uab.length
 z1:c.known.length≤500
 z2:c.changes.length≤800
 z3:c.edges.length≤500
 z4:c.forest.length≤500
 z5:c.waiting.length≤500
 z6:c.abo.length≤500
theorem gX(U:By c.uab)(m:a<c.uab.length):c.find a<c.uab.length:=by
 have:=Jt c.uab a;show root c.uab a<_;exact AK (CD this) m
theorem M9(U:By c.uab){a:Nat}(m:a<c.uab.length):c.uab[c.find a]? =some (c.find a):=dR U m
set_option tactic.hygienic true in
def Va(σ:AA)(c:HS)(L:AY)(chs:List Ch)(k:Nat)(many:Nat)(g:Nat)(lg:List Nat)(Ψ:AA→Prop):Prop:=∀(P:AS σ L c)(m:c.changes=chs++[.loose k many g])(n:L (.users chs.length)=L (.abv g))(hg:AH c.abo g=some lg)(q:∀σ',AS σ' L {c with abo:=BP c.abo g,changes:=chs++[.edge k many g lg]}→Fm σ c L σ' {c with abo:=BP c.abo g,changes:=chs++[.edge k many g lg]} L→Ψ σ'),Ψ (Internal.upd σ (L .above) (.dictI (BP (c.abo.map fun p=>((p.1:Int),AV.ref (L (.abv p.1)))) (g:Int))))
def aP:(((AA×HS)×AY)×(List Ch×Nat))×((Nat×Nat)×(List Nat×(AA→Prop)))→Prop:=fun t=>Va t.1.1.1.1 t.1.1.1.2 t.1.1.2 t.1.2.1 t.1.2.2 t.2.1.1 t.2.1.2 t.2.2.1 t.2.2.2
def JY:=zE aP (((((fun _=>none),Dy),(fun _=>0)),([],0)),((0,0),([],(fun _=>True))))
def s7:=JY.1.1.1.1
def ET:=JY.1.1.1.2
def Gi:=JY.1.1.2
def G4:=JY.1.2.1
def PA:=JY.1.2.2
def PJ:=JY.2.1.1
def DY:=JY.2.1.2
def LM:=JY.2.2.1
def kY:=JY.2.2.2
set_option tactic.hygienic true in
theorem wO:Va s7 ET Gi G4 PA PJ DY LM kY:=fun P hc hL hg q=>by
 have e0:BP (ET.abo.map fun p=>((p.1:Int),AV.ref (Gi (.abv p.1)))) (DY:Int)=(BP ET.abo DY).map fun p=>((p.1:Int),AV.ref (Gi (.abv p.1))):=by
  unfold BP;rw[Jl];refine congrArg _ (Tn fun p _=>?_);simp only[Nw];exact decide_eq_decide.mpr (!Am ZS)
 rw[e0];have a3:∀i,AH (BP ET.abo DY) i=if i=DY then none else AH ET.abo i:=fun i=>by
  unfold BP AH;rw[List.find?_filter];by_cases h:i=DY
  ·rw[if_pos h,YI.mpr];rfl;intro p _;simp only[decide_not,Ze5,Im,decide_eq_false_iff_not,Fg,decide_eq_true_eq,not_and];intro h1 h2;exact h1 (h2.trans h)
  ·rw[if_neg h];refine congrArg _ (congrArg (fun f=>List.find? f ET.abo) (funext fun p=>?_));by_cases hp:p.1=i
   ·simp[hp,h]
   ·simp[hp]
 have m:Al ET Gi (.abv DY)=some (.list (nats LM)):=by show YH _ _=_;rw[hg];rfl
 have key:∀s y,s≠.above→Al {ET with abo:=BP ET.abo DY,changes:=G4++[.edge PA PJ DY LM]} Gi s=some y→(Al ET Gi s=some y∧s≠.abv DY∧s≠.users G4.length)∨(s=.users G4.length∧y=.list (nats LM)):=by
  intro s y hs h;cases s<;>first|exact absurd rfl hs|exact .inl ⟨h,by simp,by simp⟩|skip
  ·rename_i i;change(AH (BP ET.abo DY) i).map _=_ at h;rw[a3]at h;by_cases hi:i=DY
   ·rw[if_pos hi]at h;cases h
   ·rw[if_neg hi]at h;exact .inl ⟨h,by simpa using hi,!(by intro e;injection e)⟩
  ·refine .inl ⟨?_,!(by intro e;injection e),!(by intro e;injection e)⟩;rw[←h];show some (AO.list (ET.changes.zipIdx.map _))=some (AO.list ((G4++[Ch.edge PA PJ DY LM]).zipIdx.map _));rw[hc,Nx,Nx,Cr,Cr];rfl
  ·rename_i j;change((G4++[Ch.edge PA PJ DY LM])[j]?.bind _)=_ at h;by_cases hj:j=G4.length
   ·subst hj;rw[Ik (A9 _),QR]at h;exact .inr ⟨rfl,(An h).symm⟩
   ·refine .inl ⟨?_,!(by intro e;injection e),by simpa using hj⟩;rw[←h];show(ET.changes[j]?.bind _)=_;rw[hc];by_cases hl:j<G4.length
    ·rw[El hl,El hl]
    ·rw[Lq (by simp;exact Am Y0 hj hl),Lq (by simp;exact Am Y0 hj hl)]
 have ne:Gi .above≠Gi (.abv DY):=fun e=>by
  have:=P.inj .above (.abv DY) (!(by intro e;injection e)) (by rw[m];exact Ag _) e;exact nomatch this
 refine q _ ⟨fun s y hy=>?_,fun s t hs ht e=>?_,P.n1⟩ ⟨fun a n f=>Av _ _ fun e=>f ⟨.above,!(by intro e;injection e),e.symm⟩,fun a a1=>AI a1 fun s hs e=>.inl ?_,rfl⟩
 ·by_cases h:s=.above
  ·subst h;rw[Ao];exact hy
  ·rcases key s y h hy with⟨h1,h2,h3⟩|⟨rfl,rfl⟩
   ·rw[Av _ _ (fun e=>h (P.inj s .above (by rw[h1];exact Ag _) (!(by intro e;injection e)) e))];exact P.at_ s y h1
   ·rw[hL,Av _ _ (Ne.symm ne)];exact P.at_ _ _ m
 ·have cls:∀s,Al {ET with abo:=BP ET.abo DY,changes:=G4++[.edge PA PJ DY LM]} Gi s≠none→s=.above∨(Al ET Gi s≠none∧s≠.abv DY∧s≠.users G4.length)∨s=.users G4.length:=fun s hs=>by
   by_cases h:s=.above
   ·exact .inl h
   ·refine AX (Ee.mp hs) fun y hy=>?_;rcases key s y h hy with⟨h1,h2,h3⟩|⟨h1,_⟩
    ·exact .inr (.inl ⟨by rw[h1];exact Ag _,h2,h3⟩)
    ·exact .inr (.inr h1)
  have a0:∀s,s=.above∨(Al ET Gi s≠none∧s≠.abv DY∧s≠.users G4.length)→Al ET Gi s≠none∧s≠.abv DY:=fun s h=>by
   rcases h with rfl|⟨h1,h2,_⟩
   ·exact⟨!(by intro e;injection e),!nofun⟩
   ·exact⟨h1,h2⟩
  have a2:Al ET Gi (.abv DY)≠none:=by rw[m];exact Ag _
  rcases(cls s hs).elim (fun h=>Or.inl (a0 s (.inl h))) (fun h=>h.elim (fun h=>Or.inl (a0 s (.inr h))) Or.inr)with⟨s1,s2⟩|s1<;>
   rcases(cls t ht).elim (fun h=>Or.inl (a0 t (.inl h))) (fun h=>h.elim (fun h=>Or.inl (a0 t (.inr h))) Or.inr)with⟨t1,t2⟩|t1
  ·exact P.inj s t s1 t1 e
  ·subst t1;rw[hL]at e;exact absurd (P.inj s _ s1 a2 e) s2
  ·subst s1;rw[hL]at e;exact absurd (P.inj t _ t1 a2 e.symm) t2
  ·rw[s1,t1]
 ·by_cases h:s=.above
  ·subst h;exact⟨.above,!(by intro e;injection e),e⟩
  ·refine AX (Ee.mp hs) fun y hy=>?_;rcases key s y h hy with⟨h1,h2,h3⟩|⟨h1,_⟩
   ·exact⟨s,by rw[h1];exact Ag _,e⟩
   ·subst h1;exact⟨.abv DY,by rw[m];exact Ag _,by rw[←hL];exact e⟩
theorem AS.users{σ c L chs k many g lg Ψ}:Va σ c L chs k many g lg Ψ:=@zF _ aP _ @wO ((((σ,c),L),(chs,k)),((many,g),(lg,Ψ)))
abbrev GW(c:HS)(ch:Ch):HS:={c with changes:=c.changes++[ch]}
abbrev OU(c:HS)(L:AY):List AV:=c.changes.zipIdx.map fun p=>FD L p.2 p.1
theorem Zb0(L:AY)(s:Slot):L.put s (L s)=L:=funext fun t=>by
 by_cases h:t=s
 ·rw[h,GO]
 ·rw[Bd _ _ h]
set_option tactic.hygienic true in
theorem AS.log(P:AS σ L c){ch:Ch}{a:AB}(a3:∀k m g us,ch≠.edge k m g us){Ψ:AA→Prop}
  (q:∀σ',AS σ' (L.put (.users c.changes.length) a) (GW c ch)→Fm σ c L σ' (GW c ch) (L.put (.users c.changes.length) a)→Ψ σ'):
  Ψ (Internal.upd σ (L .changes) (.list (OU c L++[FD (L.put (.users c.changes.length) a) c.changes.length ch]))):=by
 have key:∀s y,s≠.changes→Al (GW c ch) (L.put (.users c.changes.length) a) s=some y→Al c L s=some y∧L.put (.users c.changes.length) a s=L s:=by
  intro s y hs h;rw[WA (m:=.changes) rfl hs]at h;cases s<;>first|exact absurd rfl hs|exact⟨h,rfl⟩|skip
  rename_i j;change((c.changes++[ch])[j]?.bind _)=_ at h;by_cases hj:j<c.changes.length
  ·rw[El hj]at h;exact⟨h,Bd _ _ (by intro e;obtain rfl:=Internal.Slot.users.inj e;exact absurd hj (EI _))⟩
  ·exfalso;rw[Ik (!EM hj)]at h;by_cases h0:j-c.changes.length=0
   ·rw[h0]at h;cases ch with
    |edge k m g us=>exact a3 k m g us rfl
    |_=>cases h
   ·refine AX (i8 h0) fun i hi=>?_;rw[hi]at h;cases h
 have a0:Al c L .changes≠none:=by exact(by intro e;injection e)
 have e0:Al (GW c ch) (L.put (.users c.changes.length) a) .changes=some (.list (OU c L++[FD (L.put (.users c.changes.length) a) c.changes.length ch])):=by
  show some (AO.list ((c.changes++[ch]).zipIdx.map _))=_;rw[Nx,Cr];have:c.changes.zipIdx.map (fun p=>FD (L.put (.users c.changes.length) a) p.2 p.1)=OU c L:=by
   refine Dr fun p hp=>?_;obtain⟨x,j⟩:=p;have hj:j<c.changes.length:=by
    have:=List.mem_zipIdx hp;exact Nat.lt_of_lt_of_eq this.2.1 (Nat.zero_add _)
   have:L.put (.users c.changes.length) a (.users j)=L (.users j):=Bd _ _ (by intro e;obtain rfl:=Internal.Slot.users.inj e;exact absurd hj (EI _));cases x<;>first|rfl|(show AV.tup [_,_,_,_,.ref (L.put _ _ (.users j))]=_;rw[this];rfl)
  rw[this];simp
 have Lc:L.put (.users c.changes.length) a .changes=L .changes:=Bd _ _ (!(by intro e;injection e));have a1:∀s,Al (GW c ch) (L.put (.users c.changes.length) a) s≠none→Al c L s≠none∧L.put (.users c.changes.length) a s=L s:=fun s hs=>by
  by_cases h:s=.changes
  ·subst h;exact⟨a0,Lc⟩
  ·refine AX (Ee.mp hs) fun y hy=>?_;refine AL (key s y h hy) fun h1 h2=>?_;exact⟨by rw[h1];exact Ag _,h2⟩
 refine q _ ⟨fun s y hy=>?_,fun s t hs ht e=>?_,?_⟩ ⟨fun b n f=>Av _ _ fun e=>f ⟨.changes,a0,e.symm⟩,fun b a2=>AI a2 fun s hs e=>.inl ?_,Bd _ _ (!(by intro e;injection e))⟩
 ·by_cases h:s=.changes
  ·subst h;rw[Lc,Ao,←hy,e0]
  ·refine AL (key s y h hy) fun h1 h2=>?_;rw[h2,Av _ _ (fun e=>h (P.inj s .changes (by rw[h1];exact Ag _) a0 e))];exact P.at_ s y h1
 ·refine AL (a1 s hs) fun h1 h2=>?_;refine AL (a1 t ht) fun h3 h4=>?_;rw[h2,h4]at e;exact P.inj s t h1 h3 e
 ·rw[Bd _ _ (!(by intro e;injection e)),Bd _ _ (!(by intro e;injection e)),Bd _ _ (!(by intro e;injection e))];exact P.n1
 ·refine AL (a1 s hs) fun h1 h2=>?_;exact⟨s,h1,by rw[←h2];exact e⟩
theorem AS.log'(P:AS σ L c)(n:∀k m g us,ch≠.edge k m g us){Ψ:AA→Prop}
  (q:∀σ',AS σ' L (GW c ch)→Fm σ c L σ' (GW c ch) L→Ψ σ'):
  Ψ (Internal.upd σ (L .changes) (.list (OU c L++[FD L c.changes.length ch]))):=by
 have:=P.log (ch:=ch) (a:=L (.users c.changes.length)) n (Ψ:=Ψ);rw[Zb0]at this;exact this q
theorem Y7(m:AY)(e:AH c.abo k=some lk):
  Aw (c.abo.map fun p=>((p.1:Int),AV.ref (m (.abv p.1)))) (k:Int) (.ref D)=(Aw c.abo k l).map fun p=>((p.1:Int),AV.ref (m.put (.abv k) D (.abv p.1))):=by
 have n:AH (c.abo.map fun p=>((p.1:Int),AV.ref (m (.abv p.1)))) (k:Int)=some (.ref (m (.abv k))):=Ho (L:=m) e;unfold Aw;rw[n,e];simp only[QP,if_true];rw[Bu,Bu];refine Dr fun p zz=>?_;simp only[Nw];by_cases h:p.1=k
 ·subst h;rw[if_pos rfl,if_pos rfl,GO]
 ·rw[if_neg (!Am Ra h),if_neg h,Bd _ _ (by simpa using h)]
theorem xp{K V:Type}[DecidableEq K]{k j:K}{v:V}:∀{xs:List (K×V)},AH (xs.map fun p=>if p.1=k then(p.1,v)else p) j=if j=k then(AH xs k).map fun zz=>v else AH xs j:=by
 intro xs
 induction xs with
 |nil=>
  by_cases h:j=k<;>simp[AH,h]
 |cons p xs n=>
  rw[CB,FT,n,FT,FT];by_cases hp:p.1=k
  ·rw[if_pos hp,if_pos hp];by_cases m:j=k
   ·subst m;simp[hp]
   ·rw[if_neg m,if_neg m,if_neg (by rw[hp];exact Ne.symm m),if_neg (by rw[hp];exact Ne.symm m)]
  ·rw[if_neg hp,if_neg hp];by_cases m:j=k
   ·subst m;simp[hp]
   ·simp[m]
theorem Hc{K V:Type}[DecidableEq K]{k j:K}{v:V}:∀{xs:List (K×V)},AH (xs++[(k,v)]) j=(AH xs j).or (if j=k then some v else none):=by
 intro xs
 induction xs with
 |nil=>
  rw[List.nil_append,FT];by_cases h:k=j
  ·subst h;exact rfl
  ·rw[if_neg h,if_neg (Ne.symm h)];rfl
 |cons p xs m=>
  rw[List.cons_append,FT,FT,m];by_cases hp:p.1=j
  ·rw[if_pos hp,if_pos hp];rfl
  ·rw[if_neg hp,if_neg hp]
theorem Di{K V:Type}[DecidableEq K]{xs:List (K×V)}{k j:K}{v:V}:AH (Aw xs k v) j=if j=k then some v else AH xs j:=by
 unfold Aw;by_cases h:(AH xs k).isSome=true
 ·rw[if_pos h,xp];refine AX (Ll.mp h) fun y n=>?_;rw[n];rfl
 ·rw[if_neg h,Hc];have h:AH xs k=none:=by simpa using h
  by_cases m:j=k
  ·subst m;rw[h,if_pos rfl];rfl
  ·rw[if_neg m,if_neg m,YJ]
theorem Sj{K V:Type}[DecidableEq K]{xs:List (K×V)}{k j:K}:AH (BP xs k) j=if j=k then none else AH xs j:=by
 unfold BP AH;rw[List.find?_filter];by_cases h:j=k
 ·rw[if_pos h,YI.mpr];rfl;intro p _;simp only[decide_not,Ze5,Im,decide_eq_false_iff_not,decide_eq_true_eq,not_and];intro n m;exact n (m.trans h)
 ·rw[if_neg h];refine congrArg _ (congrArg (fun f=>List.find? f xs) (funext fun p=>?_));by_cases hp:p.1=j
  ·simp[hp,h]
  ·simp[hp]
theorem Vz(c:HS){a b:Nat}(U:By c.uab)(ha:a<c.uab.length)(hb:b<c.uab.length):c.uab[min (c.find a) (c.find b)]? =some (min (c.find a) (c.find b))∧c.uab[max (c.find a) (c.find b)]? =some (max (c.find a) (c.find b)):=by
 have n:=M9 U ha;have m:=M9 U hb;rcases NW (c.find a) (c.find b)with h|h
 ·rw[TD h,TF h];exact⟨n,m⟩
 ·rw[TE h,TG h];exact⟨m,n⟩
def M7(c:HS)(chs:List Ch)(many:Nat)(a b:Nat)(r:AV):HS:=
 let k:=min (c.find a) (c.find b);let g:=max (c.find a) (c.find b)
 if c.find a=c.find b then{c with edges:=c.edges++[.tup [.int a,.int b,r]]}
 else{HC c k g with changes:=chs++[.edge k many g (c.ab g)],edges:=c.edges++[.tup [.int a,.int b,r]],forest:=c.forest++[c.edges.length],waiting:=c.waiting++c.ab g,abo:=Aw (BP c.abo g) k (c.ab k++c.ab g)}
structure Mh(c:HS):Prop where
 U:By c.uab
 O:N9 c
 abo:∀i:Nat,c.uab[i]? =some i→∃l,AH c.abo i=some l∧l.length≤40
 z3:c.edges.length≤500
 z4:c.forest.length≤500
 z5:c.waiting.length≤500
 z6:c.abo.length≤500
theorem yj(c:HS)(a b:Nat)(r:AV):c.join a b r=M7 (GW c (.loose (min (c.find a) (c.find b)) (c.ab (min (c.find a) (c.find b))).length (max (c.find a) (c.find b)))) c.changes (c.ab (min (c.find a) (c.find b))).length a b r:=by
 unfold HS.join M7;by_cases h:c.find a=c.find b
 ·show(if c.find a=c.find b then _ else _)=if c.find a=c.find b then _ else _;rw[if_pos h,if_pos h,show max (c.find a) (c.find b)=min (c.find a) (c.find b) by rw[h];exact rfl]
 ·have h':(GW c (.loose (min (c.find a) (c.find b)) (c.ab (min (c.find a) (c.find b))).length (max (c.find a) (c.find b)))).find a≠(GW c (.loose (min (c.find a) (c.find b)) (c.ab (min (c.find a) (c.find b))).length (max (c.find a) (c.find b)))).find b:=h;simp only[h',h,if_false];rfl
def WG(σ:AA)(A:Ab)(c:HS)(L:AY)(a:Nat)(b:Nat)(r:AV)(chs:List Ch)(many:Nat)(Φ:AV→AA→Prop):Prop:=∀(B:Ai)(R:Ah A 3)(P:AS σ L c)(S:Mh c)(ha:a<c.uab.length)(m:b<c.uab.length)(n:c.changes=chs++[.loose (min (c.find a) (c.find b)) many (max (c.find a) (c.find b))])(hL:L (.users chs.length)=L (.abv (max (c.find a) (c.find b))))(q:∀L' σ',AS σ' L' (M7 c chs many a b r)→Fm σ c L σ' (M7 c chs many a b r) L'→Φ (.bool (decide (c.find a≠c.find b))) σ'),Du A (.ref 331) [.ref (L .hp),.int a,.int b,r] σ Φ
def bb:(((AA×Ab)×HS)×(AY×Nat))×(((Nat×AV)×List Ch)×(Nat×(AV→AA→Prop)))→Prop:=fun t=>WG t.1.1.1.1 t.1.1.1.2 t.1.1.2 t.1.2.1 t.1.2.2 t.2.1.1.1 t.2.1.1.2 t.2.1.2 t.2.2.1 t.2.2.2
def II:=zE bb (((((fun _=>none),{}),Dy),((fun _=>0),0)),(((0,.none),[]),(0,(fun _ _=>True))))
def uR:=II.1.1.1.1
def pf:=II.1.1.1.2
def BL:=II.1.1.2
def JT:=II.1.2.1
def EP:=II.1.2.2
def ES:=II.2.1.1.1
def HW:=II.2.1.1.2
def VI:=II.2.1.2
def Ur:=II.2.2.1
def jQ:=II.2.2.2
theorem pP:WG uR pf BL JT EP ES HW VI Ur jQ:=fun B R P S ha a5 hc hL q=>by
 have z3:=S.z3;have z4:=S.z4;have z5:=S.z5;have z6:=S.z6;refine Du.def (F:=(lh w)) (names:=["self","a","b","reason"]) B R rfl (fun Lf=>?_) (LL fun _ _ _ _=>rfl) rfl ∅
 ·have e1:=P.at_ .edges _ rfl;refine AJ (Be (CY Fj Fk (BM B () P.iH (Ok w) PD ⟨rfl,e1,
   Aa (Bt (AC.cons (AG () (BW (AG () (AG () ⟨!ld rfl,E7 e1 (!ln z3 rfl) ?_⟩))))))⟩)))
  refine Cz P .edges (c':={BL with edges:=BL.edges++[.tup [.int EP,.int ES,HW]]}) (by first|exact Ag _|(show some _=some _;simp)) fun a6 P1 F1 _=>?_
  refine AJ (BR (Cy B () P1.iH (I6 w) JB P1.iU () (kJ w) (cr w) (BW (AG () (AG () (qL B (R.deeper _) P1 S.U ⟨S.O.len,S.O.sz,S.O.m⟩ ha a5 (fun e a1 P2 F2=>?_) (fun e a1 P2 F2=>?_)))))))
  ·refine A2 ?_;refine AJ (CM (Bg (AG As (XH (ga (b:=true) (fun h v HW=>by obtain rfl:=XN HW;rfl) (BO ?_))))));refine CN rfl ?_;have e':BL.find EP=BL.find ES:=e;refine AJ (B8 (Lb ?_));have q':=q JT a1;unfold M7 at q';simp only[e',if_pos,ne_eq,not_true_eq_false,decide_false]at q';exact q' P2 (F1.trans F2)
  ·have e':BL.find EP≠BL.find ES:=e;have q':=q;unfold M7 at q';simp only[e',if_false,ne_eq,not_false_eq_true,decide_true]at q';refine AL (Vz BL S.U ha a5) fun hk hg=>?_;change ∀σ',_ at q;change AS a1 JT {HC BL (min (BL.find EP) (BL.find ES)) (max (BL.find EP) (BL.find ES))with edges:=_}at P2;change Fm a6 _ JT a1 {HC BL (min (BL.find EP) (BL.find ES)) (max (BL.find EP) (BL.find ES))with edges:=_} JT at F2;show AP _ _ _ (.tup [.int (min (BL.find EP) (BL.find ES):Nat),.int (max (BL.find EP) (BL.find ES):Nat)]) _ _ _;have a7:min (BL.find EP) (BL.find ES)≠max (BL.find EP) (BL.find ES):=by exact w9 e'
   generalize min (BL.find EP) (BL.find ES)=k at*;generalize max (BL.find EP) (BL.find ES)=g at*;refine AI (S.abo k hk) fun lk a0 a4=>?_;refine AI (S.abo g hg) fun lg n a2=>?_;have ek:BL.ab k=lk:=by unfold HS.ab;rw[a0];rfl
   have eg:BL.ab g=lg:=by unfold HS.ab;rw[n];rfl
   rw[ek,eg]at q';refine A2 ?_;refine AJ (CM (Bg (AG As (XH (ga (b:=false) (fun h v HW=>by cases HW;rfl) (BO ?_))))));refine Ba rfl ?_;refine Ax ?_;refine AJ (BR (AG As (Ex R.handled (.tup _) rfl (BY (A2 (BY (A2 (Da ?_))))))));have e2:=P2.at_ .forest _ rfl;have e3:=P2.at_ .edges _ rfl;refine AJ (Be (CY Fj Fk (BM B () P2.iH (VF w) Uc ⟨rfl,e2,
    Aa (CE (Bl B (CW w) CV (Aa (BM B () P2.iH (Ok w) PD (Ce e3 (by simp;exact ln z3 rfl) (BB (NL (E7 e2 (by rw[AU];show BL.forest.length≤_;exact ln z4 rfl) ?_))))))))⟩)))
   have el:(((BL.edges++[AV.tup [.int EP,.int ES,HW]]).length:Nat):Int)-1=(BL.edges.length:Nat):=by simp
   rw[el];refine Cz P2 .forest (c':={HC BL k g with edges:=BL.edges++[.tup [.int EP,.int ES,HW]],forest:=BL.forest++[BL.edges.length]}) (by first|exact Ag _|(show some _=some _;simp)) fun b0 P3 F3 _=>?_
   have e4:=P3.at_ .waiting _ rfl;have e5:=P3.at_ .above _ rfl;have e6:=H8 P3 n;refine AJ (Be (CY iL Ze2 (BM B () P3.iH (Pa w) M3 ⟨rfl,e4,
    Aa (HG B () P3.iH (Fn w) GJ () (.dictI e5) (DK.get (FR w) e5 (Ho n) (gN e4 e6 (by rw[AU,AU];show BL.waiting.length+_≤_;exact Am oN z5 a2) ?_)))⟩)))
   refine Cz P3 .waiting (c':={HC BL k g with edges:=BL.edges++[.tup [.int EP,.int ES,HW]],forest:=BL.forest++[BL.edges.length],waiting:=BL.waiting++lg}) (by first|exact Ag _|(show some _=some _;simp)) fun b2 P4 F4 _=>?_
   have e5:=P4.at_ .above _ rfl;have e6:=H8 P4 n;have e7:=H8 P4 a0;refine AJ (BR (CE (HG B () P4.iH (Fn w) GJ () (.dictI e5) (DK.get (FR w) e5 (Ho a0)
    (NJ (l:=JT .above) Xo Ze4 (BM B () P4.iH (Fn w) GJ ⟨rfl,.inl ⟨_,e5⟩,Aa (AG () (DK.pop (FR w) e5 (by rw[AU];show BL.abo.length≤_;exact ln z6 rfl) (Ho n) ?_))⟩))))))
   refine P4.users (c:={HC BL k g with edges:=BL.edges++[.tup [.int EP,.int ES,HW]],forest:=BL.forest++[BL.edges.length],waiting:=BL.waiting++lg}) (k:=k) (many:=Ur) (g:=g) (lg:=lg) hc hL n
    (Ψ:=fun σ'=>AM _ (KU .Add) (.ref (JT (.abv k))) (.ref (JT (.abv g))) σ' _) fun a8 P5 F5=>?_
   have e6:=P5.at_ (.users VI.length) (.list (nats lg)) (by show Option.bind _ _=_;simp);rw[hL]at e6;have a3:AH (BP BL.abo g) k=some lk:=by rw[Sj,if_neg a7];exact a0
   have e7:=H8 P5 a3;refine KN e7 e6 (by rw[AU,AU];exact Am tK a4 a2) fun D nD nb=>?_;refine Pj P5 nD fun a9 hD P6 F6 nf ks=>?_;have e8:=P6.at_ .above _ rfl;refine KR (BM B () P6.iH (Fn w) GJ (AG () (DK.set (FR w) e8 (by rw[AU];show(BP BL.abo g).length≤_;unfold BP;have:=Ny (fun p=>decide (p.1≠g)) BL.abo;exact ln (AK this z6) rfl) ?_)));have e9:=Y7 (c:={BL with abo:=BP BL.abo g}) JT (l:=lk++lg) (D:=D) a3;refine S6 P6 (.abv k) .above (τ:=a8) (c':={HC BL k g with changes:=VI++[.edge k Ur g lg],edges:=BL.edges++[.tup [.int EP,.int ES,HW]],forest:=BL.forest++[BL.edges.length],waiting:=BL.waiting++lg,abo:=Aw (BP BL.abo g) k (lk++lg)}) (x:=.list (nats lk++nats lg)) hD nD F6 nf rfl ?_ ?_ (fun t t0 t1 z hz=>?_) fun b1 P7 F7=>?_
   ·show((AH (Aw _ _ _) _).map _)=_;rw[Di,if_pos rfl];show some (AO.list ((lk++lg).map _))=_;rw[Cr]
   ·show some (AO.dictI _)=some (AO.dictI _);exact congrArg (fun x=>some (AO.dictI x)) e9.symm
   ·refine RO hz t1 fun i e hz=>?_;change((AH (Aw _ _ _) i).map _)=_ at hz;rw[Di,if_neg (fun q=>t0 (by rw[e,q]))]at hz;exact hz
   ·exact AJ (B8 (Lb (q' _ _ P7 (F1.trans (F2.trans (F3.trans (F4.trans (F5.trans F7))))))))
theorem ww{σ A c L a b r chs many Φ}:WG σ A c L a b r chs many Φ:=@zF _ bb _ @pP ((((σ,A),c),(L,a)),(((b,r),chs),(many,Φ)))
theorem ci(B:Ai)(R:Ah A 5)(P:AS σ L c)(S:Mh c)(z2:c.changes.length≤900)(ha:a<c.uab.length)(n:b<c.uab.length)
  (q:∀L' σ',AS σ' L' (c.join a b r)→Fm σ c L σ' (c.join a b r) L'→Φ (.bool (decide (c.find a≠c.find b))) σ'):AF A (.ref 445) [.ref (L .hp),.int a,.int b,r] σ Φ:=by
 refine .of (XC (F:=(Wq w)) (names:=["self","a","b","reason"]) B R rfl (fun Lf=>?_) (LL fun zz zz zz zz=>rfl) rfl ∅)
 ·refine Cm.cons (.of (BR (Bl B (Mq w) MI (Aa (DU (BW
   (Bq B () P.iH () (G8 w) (Hb w) (Aa (AG () (HD B (R.up rfl) P S.U ha ?_))))))))))
  refine Bq B () P.iH () (G8 w) (Hb w) (Aa (AG () (HD B (R.up rfl) P S.U n ?_)));refine⟨!ld rfl,fun D na nb=>?_⟩;refine LR P na fun a8 hD P1 F1 nf ks=>?_;refine Sr (is:=[(c.find a:Nat),(c.find b:Nat)]) hD (!ld rfl) fun js hp hs E nE a5=>?_;have hj:=V5 hp hs;subst hj;refine AL (Vz c S.U ha n) fun hk hg=>?_;rw[yj]at q;refine Pj P1 nE fun a9 hE P2 F2 a6 a7=>?_;refine Ex R.handled (.list hE) rfl (BY (A2 (BY (A2 (Da ?_)))));refine AI (S.abo _ hk) fun lk a0 a1=>?_;refine AI (S.abo _ hg) fun lg a3 a4=>?_;have ek:c.ab (min (c.find a) (c.find b))=lk:=by unfold HS.ab;rw[a0];rfl
  have e1:=P2.at_ .changes _ rfl;have e5:=P2.at_ .above _ rfl;refine Cm.cons (.of (Be (CY Fj Fk (BM B () P2.iH (Iu w) JE ⟨rfl,e1,Aa (Bt ?_)⟩))));refine AC.cons (DB (AC.cons (AG () (AC.cons (Bl B (CW w) CV (Aa (HG B () P2.iH (Fn w) GJ () (.dictI e5) (DK.get (FR w) e5 (Ho a0) ?_))))))));refine Ce (H8 P2 a0) (by rw[AU];exact ln a1 rfl) (BW (AG () (HG B () P2.iH (Fn w) GJ () (.dictI e5) (DK.get (FR w) e5 (Ho a3) ?_))));refine⟨!ld rfl,E7 e1 (by rw[AU,Em];exact ln z2 rfl) ?_⟩;rw[AU,←ek];have a2:FD (L.put (.users c.changes.length) (L (.abv (max (c.find a) (c.find b))))) c.changes.length (.loose (min (c.find a) (c.find b)) (c.ab (min (c.find a) (c.find b))).length (max (c.find a) (c.find b)))=
    .tup [.str "edge",.int (min (c.find a) (c.find b):Nat),.int (c.ab (min (c.find a) (c.find b))).length,.int (max (c.find a) (c.find b):Nat),.ref (L (.abv (max (c.find a) (c.find b))))]:=by
   show AV.tup [_,_,_,_,.ref (L.put _ _ _)]=_;rw[GO]
  rw[←a2];refine P2.log (ch:=.loose (min (c.find a) (c.find b)) (c.ab (min (c.find a) (c.find b))).length (max (c.find a) (c.find b))) (by simp) (Ψ:=fun σ'=>Cm _ _ _ _ _ σ' _) fun b0 P3 F3=>?_;have hp:L.put (.users c.changes.length) (L (.abv (max (c.find a) (c.find b)))) .hp=L .hp:=Bd _ _ (!(by intro e;injection e));refine Cm.cons (Zcd (V0 B (Wq w) (qv w) (kZ w) () () () () () () () () (hp▸P3.iH)
   (AC.cons (AG () (BW (AG () (AG () ?_))))) () ()))
  rw[←hp];refine ww (chs:=c.changes) (many:=(c.ab (min (c.find a) (c.find b))).length) B (R.up rfl) P3 ⟨S.U,⟨S.O.len,S.O.sz,S.O.m⟩,S.abo,S.z3,S.z4,S.z5,S.z6⟩ ha n rfl ?_ fun L' σ' P' F'=>?_
  ·rw[GO];exact(Bd _ _ (!(by intro e;injection e))).symm
  ·exact q L' σ' P' (F1.trans (F2.trans (F3.trans F')))
def KH(fd:Aj):List DD:=match fd.body with
 |.stmts b=>b
 |_=>[]
abbrev VM(fd:Aj)(n:Nat):List DD:=(KH fd).drop n
abbrev cS(fd:Aj)(L f:AB):Code:=.func (KH fd) (BA fd L f)
theorem Dw.j(S:Dw c):Mh c:=⟨S.U,⟨S.O.len,S.O.sz,S.O.m⟩,S.abo,S.z3,S.z4,S.z5,S.z6⟩
theorem uE(B:Ai)(R:Ah A 6)(P:AS σ L c)(S:Mh c)(z2:c.changes.length≤900)(z1:c.known.length≤900)(zn:c.nodes.length≤1000){n:Nat}{nd:Nd}(e:c.nodes[n]? =some nd)(hn:n<c.uab.length)(hk:∀k∈nd.2,k<c.uab.length)(hl:nd.2.length≤1000)
  (a4:∀m,AH c.known (c.canon n)=some m→m<c.uab.length){Φ:AV→AA→Prop}
  (q:∀L' σ',AS σ' L' (c.look n)→Fm σ c L σ' (c.look n) L'→Φ .none σ'):Du A (.ref 303) [.ref (L .hp),.int n] σ Φ:=by
 refine Du.def (F:=(SR w).2) (names:=["self","n"]) B R rfl (fun Lf=>?_) (C9 fun zz zz=>rfl) rfl ∅
 ·refine AJ (BR (NJ (l:=L .known) TY jA (BM B () P.iH (SG w) R3 ⟨rfl,.inr (.inr ⟨_,P.at_ .known _ rfl⟩),?_⟩)));refine BW (Bq B () P.iH () (Zt w) (Rv w).2 (Aa (AG () (cI B (R.up rfl) P S.U e zn hk hl fun a3 x1=>AG () ?_))));have P1:=P.ext x1;have ek:=P1.at_ .known _ rfl
  -- behind the table: c2, o
  have tail:∀(c2:HS)(o:Nat)(a0:AA),AS a0 L c2→Fm σ c L a0 c2 L→c2.uab=c.uab→Mh c2→c2.changes.length≤900→o<c.uab.length→c.look n=(if c.find o≠c.find n then c2.join o n HS.likeR else c2)→
    EX (A.deeper (BA (SR w).1 Lf 303)) (BA (SR w).1 Lf 303) (VM (SR w).1 1) (put (B4 ["self","n"] [.ref (L .hp),.int n]) "other" (.int (o:Nat))) a0 (backs Φ):=by
   intro c2 o a0 P2 F2 eu S2 zc ho a1;have U2:By c2.uab:=by rw[eu];exact S.U
   have fe:∀a,c2.find a=c.find a:=fun a=>by show root c2.uab a=root c.uab a;rw[eu]
   refine AJ (CM (Bg (Bq B () P2.iH () (G8 w) (SU w).2 (Aa (AG () (HD B (R.up rfl) P2 U2 (by rw[eu];exact ho)
    (Bq B () P2.iH () (G8 w) (SU w).2 (Aa (AG () (HD B (R.up rfl) P2 U2 (by rw[eu];exact hn) (NO (BO ?_))))))))))))
   rw[fe,fe];by_cases h:c.find o=c.find n
   ·have:(not (decide (((c.find o:Nat):Int)=(c.find n:Nat))))=false:=by simp[h]
    refine Ba this ?_;rw[a1,if_neg (by simpa using h)]at q;exact Ax (Ax (q _ _ P2 F2))
   ·have:(not (decide (((c.find o:Nat):Int)=(c.find n:Nat))))=true:=by simp;exact Am Ra h
    refine CN this ?_;rw[a1,if_pos h]at q;refine AJ (Be (Bq B () P2.iH () (Yn w) (Vy w).2 (AC.cons (AG () (BW (AG () (Bt (Aa (DB ⟨!Cu _,?_⟩)))))))));refine ci B (R.deeper _) P2 S2 zc (by rw[eu];exact ho) (by rw[eu];exact hn) fun L' σ' P' F'=>?_;exact Ax (Ax (q _ _ P' (F2.trans F')))
  have a2:=SB (c:=c) (c.canon n);refine gJ (R.deeper _ |>.mono (!ld rfl):Ah _ 1).u1 ek P1.n1.2.1 (by rw[AU];exact ln z1 rfl) (fun y hy=>?_) (fun hy=>?_)
  ·rw[a2]at hy;cases hq:AH c.known (c.canon n)with
   |none=>rw[hq]at hy;cases hy
   |some m=>
    rw[hq]at hy;cases hy;refine A2 (tail c m a3 P1 x1.fm rfl S z2 (a4 m hq) ?_);unfold HS.look;rw[hq];exact rfl
  ·rw[a2]at hy;have hq:AH c.known (c.canon n)=none:=by
    cases hq:AH c.known (c.canon n)with
    |none=>rfl
    |some m=>rw[hq]at hy;cases hy
   have pk:Aw (c.known.map fun p=>(p.1.key,AV.int (p.2:Nat))) (c.canon n).key (.int (n:Nat))=(c.known++[(c.canon n,n)]).map fun p=>(p.1.key,AV.int (p.2:Nat)):=by
    unfold Aw;rw[a2,hq];simp
   rw[pk];refine gj P1 .known (c':={c with known:=c.known++[(c.canon n,n)]}) (!rfl) fun a0 P2 F2 zz=>?_;refine A2 (tail {c with known:=c.known++[(c.canon n,n)]} n a0 P2 (x1.fm.trans F2) rfl ⟨S.U,⟨S.O.len,S.O.sz,S.O.m⟩,S.abo,S.z3,S.z4,S.z5,S.z6⟩ z2 hn ?_);unfold HS.look;rw[hq];exact rfl
theorem gW{t:Sem Ic}{Φ:CK→AW→AA→Prop}(P:AS σ L c){ch:Ch}(n:∀k m g us,ch≠.edge k m g us)(q:∀σ',AS σ' L (GW c ch)→Fm σ c L σ' (GW c ch) L→I7 A env t ρ σ' Φ):
  I7 A env t ρ (upd σ (L .changes) (.list (OU c L++[FD L c.changes.length ch]))) Φ:=P.log' n q
def pk(y:Str):List (Str×AV)→Option AV
 |[]=>none
 |p::l=>if y=p.1 then some p.2 else pk y l
theorem Wj{y k:Str}{v v':AV}{l2:List (Str×AV)}:∀{l1:List (Str×AV)},k∉l1.map (·.1)→(if y=k then some v else pk y (l1++(k,v')::l2))=pk y (l1++(k,v)::l2):=fun{l1}=>by
 induction l1 with
 |nil=>
  intro zz;show ite (y=k) _ (ite (y=k) _ _)=ite (y=k) _ _;by_cases e:y=k
  ·rw[if_pos e,if_pos e]
  ·rw[if_neg e,if_neg e,if_neg e]
 |cons p l n=>
  intro h;have n:=n fun m=>h (.tail _ m);show ite (y=k) _ (ite (y=p.1) _ (pk y (l++(k,v')::l2)))=ite (y=p.1) _ (pk y (l++(k,v)::l2));by_cases e:y=p.1
  ·rw[if_pos e,if_pos e];exact if_neg (c:=y=k) fun q=>h (by rw[←q,e];exact Dg)
  ·rw[if_neg e,if_neg e];exact n
theorem xu{y:Str}:∀{l:List (Str×AV)},y∉l.map (·.1)→pk y l=none:=fun{l}=>by
 induction l with
 |nil=>intro zz;rfl
 |cons p l n=>intro h;exact(if_neg (c:=y=p.1) fun e=>h (by rw[e];exact Dg)).trans (n fun m=>h (.tail _ m))
theorem qj{y:Str}{k:List (Str×AV)}:∀{l:List (Str×AV)},y∉l.map (·.1)→pk y (l++k)=pk y k:=fun{l}=>by
 induction l with
 |nil=>intro zz;rfl
 |cons p l n=>intro h;exact(if_neg (c:=y=p.1) fun e=>h (by rw[e];exact Dg)).trans (n fun m=>h (.tail _ m))
theorem wI{y:Str}{k:List (Str×AV)}:∀{l:List (Str×AV)},y∉k.map (·.1)→pk y (l++k)=pk y l:=fun{l} h=>by
 induction l with
 |nil=>exact xu h
 |cons p l m=>show ite _ _ _=ite _ _ _;rw[m]
theorem Vw{y:Str}:∀{l:List (Str×AV)},(l.map (·.1)).Nodup→pk y l=pk y l.reverse:=fun{l}=>by
 induction l with
 |nil=>intro zz;rfl
 |cons p l n=>
  intro h;have h:=FM.mp h;rw[Xd];by_cases e:y=p.1
  ·refine(if_pos e).trans (Eq.trans ?_ (qj fun m=>?_).symm)
   ·exact(if_pos e).symm
   ·rw[List.map_reverse,List.mem_reverse]at m;exact h.1 (show p.1∈_ from e▸m)
  ·refine((if_neg e).trans (n h.2)).trans (wI fun m=>?_).symm;cases m with
   |head=>exact e rfl
   |tail _ m=>exact nomatch m
def hP(c:HS)(L:AY):List (Str×AV):=[("bank",.ref (L .bk)),("unions",.ref (L .un)),("edges",.ref (L .edges)),("forest",.ref (L .forest)),("known",.ref (L .known)),("above",.ref (L .above)),("waiting",.ref (L .waiting)),("backs",.int c.backs),("changes",.ref (L .changes)),("marks",.ref (L .marks)),("made",.int c.made)]
def hN:List Str:=["bank","unions","edges","forest","known","above","waiting","backs","changes","marks","made"]
theorem eG{m:Nat}:(fun y=>if y=("made":Str)then some (AV.int ((m:Nat):Int))else DM c L y)=DM {c with made:=m} L:=funext fun y=>Wj (y:=y) (l1:=(hP c L).take 10) (l2:=[]) (v':=.int c.made) (show("made":Str)∉hN.take 10 by decide+kernel)
def WE(σ:AA)(A:Ab)(c:HS)(L:AY)(n:Nat)(Φ:AV→AA→Prop):Prop:=∀(B:Ai)(R:Ah A 7)(P:AS σ L c)(S:Dw c)(m:n<c.nodes.length)(q:∀L' σ',AS σ' L' (c.lookAt n)→Fm σ c L σ' (c.lookAt n) L'→Φ .none σ'),AF A (.ref 437) [.ref (L .hp),.int n] σ Φ
def cA:((AA×Ab)×HS)×((AY×Nat)×(AV→AA→Prop))→Prop:=fun t=>WE t.1.1.1 t.1.1.2 t.1.2 t.2.1.1 t.2.1.2 t.2.2
def MN:=zE cA ((((fun _=>none),{}),Dy),(((fun _=>0),0),(fun _ _=>True)))
def Rh:=MN.1.1.1
def UA:=MN.1.1.2
def C4:=MN.1.2
def JH:=MN.2.1.1
def DI:=MN.2.1.2
def WV:=MN.2.2
theorem t5:WE Rh UA C4 JH DI WV:=fun B R P S hn q=>by
 have z1:=S.z1;have z2:=S.z2;obtain⟨nd,e⟩:∃nd,C4.nodes[DI]? =some nd:=⟨_,Dq hn⟩;refine AL (S.kids DI nd e) fun kl hk=>?_;have b0:=S.nl;have a6:=S.B.n;refine .of (XC (F:=(GB w).2) (names:=["self","n"]) B R rfl (fun Lf=>?_) (C9 fun zz zz=>rfl) rfl ∅)
 ·have tail:∀(c1:HS)(a2:AA),AS a2 JH c1→Fm Rh C4 JH a2 c1 JH→c1=(if DI=C4.made then{C4 with changes:=C4.changes++[.made DI],made:=DI+1}else C4)→
    Cm (UA.deeper (BA (GB w).1 Lf 437)) (cS (GB w).1 Lf 437) (BA (GB w).1 Lf 437) (Ff (VM (GB w).1 1) (BA (GB w).1 Lf 437)) (B4 ["self","n"] [.ref (JH .hp),.int DI]) a2 (backs WV):=by
   intro c1 a2 P1 F1 a0;have eu:c1.uab=C4.uab:=by rw[a0];split<;>rfl
   have en:c1.nodes=C4.nodes:=by rw[a0];split<;>rfl
   have a3:c1.known=C4.known:=by rw[a0];split<;>rfl
   have a7:c1.canon DI=C4.canon DI:=by rw[XM (c:=c1) (by rw[en];exact e),XM e];show(nd.1,nd.2.map (root c1.uab))=(nd.1,nd.2.map (root C4.uab));rw[eu]
   have a9:c1.changes.length≤801:=by rw[a0];by_cases hm:DI=C4.made<;>simp[hm]<;>(first|exact A5 pi z2|exact A5 rS z2)
   have SJ:∀chs,Mh {c1 with changes:=chs}:=fun chs=>by
    rw[a0];split<;>exact⟨S.U,⟨S.O.len,S.O.sz,S.O.m⟩,S.abo,S.z3,S.z4,S.z5,S.z6⟩
   refine Cm.cons (.of (BR (Bq B () P1.iH () (Zt w) (Rv w).2 (Aa (AG () (cI B (R.up rfl) P1 (by rw[eu];exact S.U) (by rw[en];exact e) (by rw[en];exact a6) (by rw[eu];exact hk) (!ln kl rfl) fun b2 x2=>A2 ?_))))));have P2:=P1.ext x2;have ek:=P2.at_ .known _ rfl;refine Cm.cons (.of (CM (Bg (AG As (BM B () P2.iH (SG w) R3 (Zby (R.deeper _ |>.mono (!ld rfl):Ah _ 1).u1 ek P2.n1.2.1 (BO ?_)))))));have b1:=SB (c:=c1) (c1.canon DI);rw[b1,a7,a3];have a4:∀(c2:HS)(a1:AA),AS a1 JH c2→Fm Rh C4 JH a1 c2 JH→c2=C4.note DI→
     Cm (UA.deeper (BA (GB w).1 Lf 437)) (cS (GB w).1 Lf 437) (BA (GB w).1 Lf 437) (Ff (VM (GB w).1 3) (BA (GB w).1 Lf 437)) (put (B4 ["self","n"] [.ref (JH .hp),.int DI]) "node" (Bw (C4.canon DI).key)) a1 (backs WV):=by
    intro c2 a1 P3 F3 a5;have e2:∃chs md,c2={C4 with changes:=chs,made:=md}∧chs.length≤900:=by
     rw[a5];unfold HS.note;split<;>split
     ·exact⟨_,_,rfl,by simp;exact ln z2 rfl⟩
     ·exact⟨_,_,rfl,by simp;exact ln z2 rfl⟩
     ·exact⟨_,_,rfl,!ln z2 rfl⟩
     ·exact⟨_,_,rfl,by simp;exact ln z2 rfl⟩
    refine Cp e2 fun chs md e2 a8=>?_;refine Cm.cons (gb (V0 B (GB w).2 (wn w) (sg w) () () () () () () () () P3.iH
     (Aa (AG () ?_)) () ()))
    refine uE (nd:=nd) B (R.deeper _) P3 (by rw[e2];exact⟨S.U,⟨S.O.len,S.O.sz,S.O.m⟩,S.abo,S.z3,S.z4,S.z5,S.z6⟩) (by rw[e2];exact a8) (by rw[e2];show C4.known.length≤_;exact ln z1 rfl) (by rw[e2];exact a6) (by rw[e2];exact e) (by rw[e2];show DI<C4.uab.length;exact AK hn (Ac b0)) (by rw[e2];exact hk) (!ln kl rfl) (fun m hm=>by rw[e2]at hm ⊢;exact S.kn _ m hm) fun L' σ' P' F'=>?_;subst a5;exact Cm.of (Ax (q L' σ' P' (F3.trans F')))
   cases hq:AH C4.known (C4.canon DI)with
   |some m=>
    refine Ba (show(not (((some m).map fun i=>AV.int (i:Nat)).isSome))=false from rfl) ?_;refine Ax (a4 c1 b2 P2 (F1.trans x2.fm) ?_);rw[a0];unfold HS.note;rw[hq];rfl
   |none=>
    refine CN (show(not (((none:Option Nat).map fun i=>AV.int (i:Nat)).isSome))=true from rfl) ?_;have e1:=P2.at_ .changes _ rfl;refine AJ (Be (CY Fj Fk (BM B () P2.iH (Iu w) JE ⟨rfl,e1,Aa (Bt (BW (DB (AG As ⟨by simp,E7 e1 (by rw[AU,Em];exact ln a9 rfl) ?_⟩))))⟩)));refine gW P2 (ch:=.known (C4.canon DI)) (by simp) fun a1 P3 F3=>?_;refine Ax (a4 _ a1 P3 (F1.trans (x2.fm.trans F3)) ?_);rw[a0];unfold HS.note;rw[hq];simp
  refine Cm.cons (.of (CM (Bg (AG () (BM B () P.iH (uT w) WH (HH (BO ?_)))))));by_cases h:DI=C4.made
  ·refine CN (decide_eq_true (!Am Ym h)) ?_;have e1:=P.at_ .changes _ rfl;refine AJ (Be (CY Fj Fk (BM B () P.iH (Iu w) JE ⟨rfl,e1,Aa (Bt (BW (DB (AG () ⟨by simp,E7 e1 (by rw[AU,Em];exact ln z2 rfl) ?_⟩))))⟩)));refine gW P (ch:=.made DI) (by simp) fun a1 P3 F3=>?_;refine AJ (BR (CE (AG () (BB (Jd ?_)))));rw[show((DI:Nat):Int)+1=((DI+1:Nat):Int) by simp];refine Pm B (AG () ?_);refine⟨_,_,_,_,_,11,rfl,P3.iH,Vk w,.inr ⟨rfl,by rw[WH];simp⟩,!ld rfl,?_⟩;rw[eG (c:=GW C4 (.made DI)) (m:=DI+1)];refine Cz P3 .hdx (c':={C4 with changes:=C4.changes++[.made DI],made:=DI+1}) (hs:=by intro t ht y hy;cases t<;>first|exact absurd rfl ht|exact hy) rfl fun b3 P4 F4 zz=>?_
   refine Ax (tail _ b3 P4 (F3.trans F4) ?_);rw[if_pos h]
  ·refine Ba (decide_eq_false (!Am Ra h)) ?_;refine Ax (tail C4 Rh P (.refl _ _ _) ?_);rw[if_neg h]
theorem YR{σ A c L n Φ}:WE σ A c L n Φ:=@zF _ cA _ @t5 (((σ,A),c),((L,n),Φ))
abbrev EU(c:HS)(m:List Nat):HS:={c with waiting:=m}
theorem Dw.wait(S:Dw c)(h:ws.length≤500):Dw (EU c ws):=⟨S.U,⟨S.O.len,S.O.sz,S.O.m⟩,⟨S.B.n,S.B.w,S.B.d,S.B.m⟩,S.nl,S.kids,S.abo,S.kn,S.z1,S.z2,S.z3,S.z4,h,S.z6⟩
structure PY(I:HS→Prop)(μ:HS→Nat):Prop where
 sane:∀c,I c→Dw c
 step:∀c ws n,I c→c.waiting=ws++[n]→n<c.nodes.length∧I ((EU c ws).lookAt n)∧μ ((EU c ws).lookAt n)<μ c
theorem SA(B:Ai)(R:Ah A 8)(Go:PY I μ)(P:AS σ L c)(hI:I c)
  (q:∀c' L' σ',I c'→c'.waiting=[]→AS σ' L' c'→Fm σ c L σ' c' L'→Φ .none σ'):AF A (.ref 338) [.ref (L .hp)] σ Φ:=by
 refine AF.def (F:=(Pe w)) (names:=["self"]) B R rfl (fun Lf=>?_) (FG fun zz=>rfl) rfl ∅
 ·refine AJ (LS (fun m ρ' σ'=>∃c' L',m=μ c'∧I c'∧ρ' "self"=some (.ref (L' .hp))∧AS σ' L' c'∧Fm σ c L σ' c' L') (μ c) ⟨c,L,rfl,hI,by rfl,P,.refl _ _ _⟩ ?_);rintro m ρ' σ' ⟨c',L',rfl,a0,r1,P',F'⟩;have S:=Go.sane c' a0;have z5:=S.z5;have e1:=P'.at_ .waiting _ rfl;refine Bg (Bl B (CW w) CV (Aa (BM B r1 P'.iH (Pa w) M3 (Ce e1 (by rw[AU];exact ln z5 rfl) (BB (KQ (BO ?_)))))));rw[AU];rcases Tq c'.waiting with hw|⟨ws,n,hw⟩
  ·rw[hw];refine Ba (show decide (((([]:List Nat).length:Nat):Int)>0)=false from rfl) ?_;exact Ax (q c' L' σ' a0 hw P' F')
  ·rw[Ts]at hw;have hd:decide (((c'.waiting.length:Nat):Int)>0)=true:=by rw[hw];simp
   refine CN hd ?_;refine BN (Go.step c' ws n a0 hw) fun hn a3 a2=>?_;have a1:σ' (L' .waiting)=some (.list (nats ws++[.int n])):=by rw[e1,hw];simp
   refine AJ (Be (Bq B r1 P'.iH () (ZV w) (Z3 w) (Aa (CY FO Fl (BM B r1 P'.iH (Pa w) M3 ⟨rfl,a1,AC.nil (FJ a1 (by simp;rw[hw]at z5;simp at z5;exact ln z5 rfl) ?_)⟩)))));refine gS P' .waiting (c':=EU c' ws) (!rfl) fun a4 P1 F1 zz=>?_;refine YR B (R.deeper _) P1 (S.wait (by rw[hw]at z5;simp at z5;exact ln z5 rfl)) hn fun L2 a5 P2 F2=>?_;exact Ax ⟨_,a2,_,L2,rfl,a3,by rw[F2.root];exact r1,P2,F'.trans (F1.trans F2)⟩
theorem bj(B:Ai)(R:Ah A 6)(P:AS σ L c)(S:Dw c){a b:Nat}(ha:a<c.uab.length)(n:b<c.uab.length){r:AV}{Φ:AV→AA→Prop}
  (q:∀L' σ' v,AS σ' L' (c.join a b r)→Fm σ c L σ' (c.join a b r) L'→Φ v σ'):AF A (.ref 324) [.ref (L .hp),.int a,.int b,r] σ Φ:=by
 have z2:=S.z2;refine AF.def (F:=(Ws w)) (names:=["self","a","b","reason"]) B R rfl (fun Lf=>?_) (LL fun m m m m=>rfl) rfl ∅
 ·exact AJ (B8 (Bq B () P.iH () (Yn w) (Wq w) (AC.cons (AG () (BW (AG () (AG () (ci B (R.deeper _) P S.j (!ln z2 rfl) ha n fun L' σ' P' F'=>q L' σ' _ P' F'))))))))
theorem ck(B:Ai)(R:Ah A 1)(P:AS σ L c)(hm:c.marks.length≤1000)(q:Φ (.int (c.marks.length:Nat)) σ):AF A (.ref 415) [.ref (L .hp)] σ Φ:=by
 refine AF.def (F:=(WQ w)) (names:=["self"]) B R rfl (fun Lf=>?_) (FG fun m=>rfl) rfl ∅
 ·refine AJ (B8 (Bl B (CW w) CV (Aa (BM B () P.iH (Sk w) RM (Ce (P.at_ .marks _ rfl) (by rw[AU,Em];exact ln hm rfl) ?_)))));rw[AU,Em];exact q
abbrev EQ(n:Nat)(ab:List (Nat×List Nat))(c:Nat):List (Nat×List Nat):=Aw ab c ((AH ab c).getD []++[n])
def FS(c:HS)(nd:Nd)(w d:Int):HS:=
 {KG (LG c nd w d)with abo:=(ss (nd.2.map (KG (LG c nd w d)).find)).foldl (EQ c.uab.length) (c.abo++[(c.uab.length,[])])}
theorem Yq{K V W:Type}[DecidableEq K](F:K→W){xs:List (K×V)}{k:K}{v y:V}(e:AH xs k=some y):(Aw xs k v).map (fun p=>(p.1,F p.1))=xs.map fun p=>(p.1,F p.1):=by
 unfold Aw;rw[e];simp only[QP,if_true,Bu];refine Dr fun p m=>?_;simp only[Nw];split<;>rfl
theorem Tw:AH (EQ n ab k) j=if j=k then some ((AH ab k).getD []++[n])else AH ab j:=Di
theorem ly{n:Nat}:∀{ks:List Nat}{ab:List (Nat×List Nat)}{j:Nat}{l:List Nat},AH ab j=some l→∃m,AH (ks.foldl (EQ n) ab) j=some m∧m.length≤l.length+ks.length:=by
 intro ks
 induction ks with
 |nil=>
  intro ab j l e;exact⟨l,e,!A9 _⟩
 |cons k ks a0=>
  intro ab j l e;rw[MB];by_cases h:j=k
  ·subst h;refine AI (a0 (ab:=EQ n ab j) (j:=j) (l:=l++[n]) (by rw[Tw,if_pos rfl,e];rfl)) fun m e' hl=>?_;exact⟨m,e',by simp at hl ⊢;exact BS ZO hl⟩
  ·refine AI (a0 (ab:=EQ n ab k) (j:=j) (l:=l) (by rw[Tw,if_neg h,e])) fun m e' hl=>?_;exact⟨m,e',by simp;exact BS zj hl⟩
theorem By.snoc(U:By ab)(h:ab.length≤900):By (ab++[ab.length]):=by
 refine⟨fun i x e=>?_,by simp;exact ln h rfl⟩;by_cases m:i<ab.length
 ·rw[El m]at e;exact U.le i x e
 ·have:=(BX.mp e).1;simp at this;have:i=ab.length:=by exact Am ej m this
  subst this;simp at e;exact Ac e.symm
theorem Fm.out(F:Fm σ c L σ' c' L')(h:σ a=some x)(n:¬A6 c L a):σ' a=some x∧¬A6 c' L' a:=
 ⟨by rw[F.keep a (by rw[h];exact Ag _) n];exact h,fun f=>(F.foot a f).elim n fun e=>!Bf ((h.symm.trans e))⟩
theorem xB(B:Ai)(R:Ah A 3)(P:AS σ L c)(U:By c.uab)(e:AH c.nums nd=some i)(n:i<c.uab.length)(hn:nd.2.length≤1000)(q:Φ (.int i) σ):
  AF A (.ref 291) [.ref (L .hp),.str nd.1,.tup (nats nd.2)] σ Φ:=by
 refine GQ (F:=(SQ w)) (names:=["self","op","numbers"]) B R rfl (fun Lf=>?_) (Js fun m m m=>rfl) rfl ∅
 ·refine AJ (BR (Cy B () P.iH (Kr w) K0 P.iB () (dG w) (Ql w) (BW (AG () (AG () (Zaj B (R.deeper _) P e hn (A2 ?_)))))));refine AJ (CM (Bg (AG As (Cy B () P.iH (I6 w) JB P.iU () (bY w) (U6 w) (AC.nil (YX B (R.up rfl) P U (NP (BO ?_))))))));refine CN (decide_eq_true (!Am VS n)) ?_;exact AJ (B8 (AG As q))
set_option tactic.hygienic true in
def Vm(σ:AA)(A:Ab)(c:HS)(L:AY)(nd:Nd)(Φ:AV→AA→Prop):Prop:=∀(B:Ai)(R:Ah A 9)(P:AS σ L c)(S:Dw c)(e:AH c.nums nd=none)(hn:nd.2.length≤2)(ho:Cs nd.1)(hk:∀k∈nd.2,k<c.nodes.length)(hz:c.nodes.length≤900)(n:∀k,AH c.abo k≠none→k<c.uab.length)(hS:∀w d,Dw (FS c nd w d))(q:∀m d L' σ',AS σ' L' ((FS c nd m d).lookAt c.nodes.length)→Fm σ c L σ' ((FS c nd m d).lookAt c.nodes.length) L'→Φ (.int (c.nodes.length:Nat)) σ'),AF A (.ref 291) [.ref (L .hp),.str nd.1,.tup (nats nd.2)] σ Φ
def bx:((AA×Ab)×HS)×((AY×Nd)×(AV→AA→Prop))→Prop:=fun t=>Vm t.1.1.1 t.1.1.2 t.1.2 t.2.1.1 t.2.1.2 t.2.2
def Ma:=zE bx ((((fun _=>none),{}),Dy),(((fun _=>0),Bk),(fun _ _=>True)))
def cE:=Ma.1.1.1
def ki:=Ma.1.1.2
def Bb:=Ma.1.2
def Q6:=Ma.2.1.1
def Dn:=Ma.2.1.2
def zK:=Ma.2.2
set_option tactic.hygienic true in
theorem tQ:Vm cE ki Bb Q6 Dn zK:=fun B R P S e hn ho hk hz d2 hS q=>by
 have a0:=S.nl;have z6:=S.z6;refine GQ (F:=(SQ w)) (names:=["self","op","numbers"]) B R rfl (fun Lf=>?_) (Js fun _ _ _=>rfl) rfl ∅
 ·refine AJ (BR (Cy B () P.iH (Kr w) K0 P.iB () (dG w) (Ql w) (BW (AG () (AG () (jT B (R.deeper _) P S.B e (!ln hn rfl) ho hk fun w' d d6 P1 F1=>A2 ?_))))));refine AJ (CM (Bg (AG As (Cy B () P1.iH (I6 w) JB P1.iU () (bY w) (U6 w) (AC.nil (YX B (R.up rfl) P1 S.U (NP (BO ?_))))))));refine Ba (decide_eq_false (by show ¬((Bb.nodes.length:Int)<(Bb.uab.length:Nat));exact Am wP a0)) ?_;refine Ax (AJ (Be (Cy B () P1.iH (I6 w) JB P1.iU () (ur w) (aQ w) (AC.nil (uF B (R.up rfl) P1 S.U S.O.len fun L2 d4 P2 F2=>?_)))));have a6:L2 .hp=Q6 .hp:=F2.root;have a8:∀(x:Str)(v:AV),x≠"self"→put (B4 ["self","op","numbers"] [.ref (Q6 .hp),.str Dn.1,.tup (nats Dn.2)]) x v "self"=some (.ref (L2 .hp)):=fun x v hx=>by rw[AN (Ne.symm hx),a6];rfl
  -- self.above[n] = []
  refine AJ (BR (DU (AC.nil ⟨!Bc _,fun D nD nb=>?_⟩)));refine Pj P2 nD fun e2 hD P3 F3 nf ks=>?_;have e8:=P3.at_ .above _ rfl;refine KR (BM B (a8 _ _ ⋯) P3.iH (Fn w) GJ (AG As (DK.set (FR w) e8 (by rw[AU];show Bb.abo.length≤_;exact ln z6 rfl) ?_)));have m:AH Bb.abo Bb.uab.length=none:=by
   cases hq:AH Bb.abo Bb.uab.length with
   |none=>rfl
   |some l=>have:=d2 Bb.uab.length (by rw[hq];exact Ag _);exact absurd this (EI _)
  have c3:Aw (Bb.abo.map fun p=>((p.1:Int),AV.ref (L2 (.abv p.1)))) ((Bb.nodes.length:Nat):Int) (.ref D)=(Bb.abo++[(Bb.uab.length,([]:List Nat))]).map fun p=>((p.1:Int),AV.ref (L2.put (.abv Bb.uab.length) D (.abv p.1))):=by
   rw[a0];unfold Aw;rw[Qk (fun i=>AV.ref (L2 (.abv i))),m];simp only[Option.map_none,YK,HN,if_false];rw[Cr];congr 1
   ·refine Dr fun p hp=>?_;have:p.1≠Bb.uab.length:=fun e=>by
     have:AH Bb.abo p.1≠none:=by
      unfold AH;simp only[ne_eq,Ze6,YI];intro h;exact absurd (by simp) (h p hp)
     rw[e,m]at this;exact this rfl
    rw[Bd _ _ (by simpa using this)]
   ·simp
  refine S6 P3 (.abv Bb.uab.length) .above (τ:=d4) (c':={KG (LG Bb Dn w' d)with abo:=Bb.abo++[(Bb.uab.length,[])]}) (x:=.list []) hD nD F3 nf rfl ?_ ?_ (fun t t0 t1 z hz=>?_) fun a2 P4 F4=>?_
  ·show((AH (Bb.abo++[(Bb.uab.length,[])]) Bb.uab.length).map _)=_;rw[Hc,m,if_pos rfl];rfl
  ·show some (AO.dictI _)=some (AO.dictI _);exact congrArg (fun x=>some (AO.dictI x)) c3.symm
  ·refine RO hz t1 fun i e hz=>?_;change((AH (Bb.abo++[(Bb.uab.length,[])]) i).map _)=_ at hz;rw[Hc,if_neg (fun q=>t0 (by rw[e,q])),YJ]at hz;exact hz
  have U4:By (Bb.uab++[Bb.uab.length]):=S.U.snoc (!AK (Ac a0.symm) hz);have b1:L2.put (.abv Bb.uab.length) D .hp=L2 .hp:=Bd _ _ (!(by intro e;injection e));generalize e3:L2.put (.abv Bb.uab.length) D=L4 at*;generalize a7:({KG (LG Bb Dn w' d)with abo:=Bb.abo++[(Bb.uab.length,[])]}:HS)=c4 at*;have u4:c4.uab=Bb.uab++[Bb.uab.length]:=by rw[←a7]
  have a4:c4.abo=Bb.abo++[(Bb.uab.length,[])]:=by rw[←a7]
  have c1:∀k∈Dn.2,k<c4.uab.length:=fun k a5=>by rw[u4];have:=hk k a5;rw[BJ,C5];exact GU (AK this (Ac a0))
  refine AJ (Gl R.handled (Ey (Su B R.handled (Sp B (x:="kid") (ks:=Dn.2) (R.up rfl) (AG () ⟨rfl,P4,by rw[u4];exact U4,c1,!ln hn rfl,fun D5 b0 e0=>?_⟩)
   (by show some _=_;rw[b1,a6]) ⋯ () (fun _=>by rfl) (fun _=>by rfl) (fun _=>by rfl) ⋯))))
  have P5:=P4.ext (.new (x:=.list (nats (Dn.2.map c4.find))) b0);refine⟨_,_,rfl,Ao _ _ _,by rw[AU];exact ln (CD hn) rfl,fun E nE e1=>?_⟩;have P6:=P5.ext (.new (x:=.list (nats (Internal.ss (Dn.2.map c4.find)))) nE);have c8:=P5.out nE;have X6:Ap a2 (upd (upd a2 D5 (.list (nats (Dn.2.map c4.find)))) E (.list (nats (Internal.ss (Dn.2.map c4.find))))):=(Ap.new b0).trans (.new nE);have d3:=(F1.trans (F2.trans F4)).trans (X6.fm (c:=c4) (L:=L4));have hE:=Ao (upd a2 D5 (.list (nats (Dn.2.map c4.find)))) E (.list (nats (Internal.ss (Dn.2.map c4.find))));generalize upd (upd a2 D5 (.list (nats (Dn.2.map c4.find)))) E (.list (nats (Internal.ss (Dn.2.map c4.find))))=σ6 at*;have b4:∀k∈Internal.ss (Dn.2.map c4.find),∃l,AH c4.abo k=some l∧l.length≤40:=fun k a5=>by
   refine AI (BD.mp (M5.mp a5)) fun j hj b6=>?_;subst b6;have d1:=c1 j hj;have ht:c4.uab[c4.find j]? =some (c4.find j):=dR (by rw[u4];exact U4) d1;have c2:c4.find j≤j:=Jt _ _;have c9:=hk j hj;rw[u4,El (!AK (AK (CD c2) c9) (Ac a0))]at ht;refine AI (S.abo _ ht) fun l hl a1=>?_;exact⟨l,by rw[a4,Hc,hl];rfl,a1⟩
  have b7:(Internal.ss (Dn.2.map c4.find)).length≤2:=by have:=UY (xs:=Dn.2.map c4.find);rw[AU]at this;exact AK this hn
  have b3:FS Bb Dn w' d={c4 with abo:=(Internal.ss (Dn.2.map c4.find)).foldl (EQ Bb.uab.length) c4.abo}:=by rw[←a7];rfl
  generalize Internal.ss (Dn.2.map c4.find)=kk at*;refine⟨E,_,rfl,hE,trivial,trivial,kk.length,fun i ρ' σ'=>i≤kk.length∧ρ' "self"=some (.ref (L4 .hp))∧ρ' "n"=some (.int Bb.nodes.length)∧AS σ' L4 {c4 with abo:=(kk.take i).foldl (EQ Bb.uab.length) c4.abo}∧Fm cE Bb Q6 σ' {c4 with abo:=(kk.take i).foldl (EQ Bb.uab.length) c4.abo} L4∧σ' E=some (.list (nats kk))∧¬A6 {c4 with abo:=(kk.take i).foldl (EQ Bb.uab.length) c4.abo} L4 E,
   ⟨!Bc _,by show some _=_;rw[b1,a6],by rfl,P6,d3,hE,c8⟩,?_⟩
  rintro i ρ' σ' ⟨hi,r1,r2,P',F',b2,c5⟩;refine⟨hi,_,⟨_,b2,rfl⟩,?_⟩;rw[CH];cases hq:kk[i]? with
  |some k=>
   have a3:=(BX.mp hq).1;refine AI (b4 k (C6 hq)) fun l0 c6 a9=>?_;refine AI (ly (n:=Bb.uab.length) (ks:=kk.take i) c6) fun l hl a1=>?_;have a1:l.length≤42:=by rw[Nv]at a1;exact jd b7 a9 a1
   have et:kk.take (i+1)=kk.take i++[k]:=by rw[Gy,hq];rfl
   have ef:(kk.take (i+1)).foldl (EQ Bb.uab.length) c4.abo=Aw ((kk.take i).foldl (EQ Bb.uab.length) c4.abo) k (l++[Bb.uab.length]):=by
    rw[et,QS,MB,List.foldl_nil];unfold EQ;rw[hl];rfl
   have ea:=P'.at_ .above _ rfl;have el:=H8 P' hl;refine A2 (AJ (Be (CY Fj Fk (HG B (by rw[AN ⋯];exact r1) P'.iH (Fn w) GJ As (.dictI ea) (DK.get (FR w) ea (Ho hl)
    ⟨rfl,el,Aa (AG (by rw[AN ⋯];exact r2) (E7 el (by rw[AU];exact ln a1 rfl) ?_))⟩)))))
   refine Cz P' (.abv k) (c':={c4 with abo:=(kk.take (i+1)).foldl (EQ Bb.uab.length) c4.abo}) ?h1 (fun e4 P7 F7 k7=>Ax ⟨!a3,by rw[AN ⋯];exact r1,by rw[AN ⋯];exact r2,P7,F'.trans F7,F7.out b2 c5⟩) (by show(AH _ k).map _≠none;rw[hl];exact Ag _) ?h2
   case h1=>
    show(AH ((kk.take (i+1)).foldl (EQ Bb.uab.length) c4.abo) k).map _=_;rw[ef,Di,if_pos rfl,a0];simp
   case h2=>
    intro t ht y hy;cases t<;>first|exact hy|skip
    ·change some (AO.dictI (((kk.take (i+1)).foldl (EQ Bb.uab.length) c4.abo).map _))=_ at hy;rw[ef]at hy;rw[←hy];have pk:=Yq (K:=Nat) (fun(j:Nat)=>AV.ref (L4 (.abv j))) (v:=l++[Bb.uab.length]) hl;have b5:=congrArg (Il fun p:Nat×AV=>((p.1:Int),p.2)) pk;rw[Bu,Bu]at b5;exact congrArg (fun x=>some (AO.dictI x)) b5.symm
    ·rename_i j;change((AH ((kk.take (i+1)).foldl (EQ Bb.uab.length) c4.abo) j).map _)=_ at hy;rw[ef,Di,if_neg (fun e=>ht (by rw[e]))]at hy;exact hy
  |none=>
   have a3:i=kk.length:=by have:=GV.mp hq;exact Ej hi this
   subst a3;rw[iq,←b3]at P' F';refine AJ (Be (Bq B r1 P'.iH () (ZV w) (Z3 w) (Aa (AG r2 (YR B (R.up rfl) P' (hS w' d) (by show _<(Bb.nodes++[Dn]).length;simp) fun L8 d5 P8 F8=>?_)))));exact AJ (B8 (AG r2 (q _ _ _ _ P8 (F'.trans F8))))
theorem fQ{σ A c L nd Φ}:Vm σ A c L nd Φ:=@zF _ bx _ @tQ (((σ,A),c),((L,nd),Φ))
variable {c0:HS} {L0:AY}
theorem vY(B:Ai)(R:Ah A 10)(P:AS σ L c)(S:Dw c)(e:AH c.nums (x,[])=none)(ho:Cs x)(hz:c.nodes.length≤900)
  (n:∀k,AH c.abo k≠none→k<c.uab.length)(hS:∀w d,Dw (FS c (x,[]) w d))
  (q:∀m d L' σ',AS σ' L' ((FS c (x,[]) m d).lookAt c.nodes.length)→Fm σ c L σ' ((FS c (x,[]) m d).lookAt c.nodes.length) L'→Φ (.int (c.nodes.length:Nat)) σ'):
  AF A (.ref 296) [.ref (L .hp),.tup [.str x]] σ Φ:=by
 refine GQ (F:=(cB w)) (names:=["self","term"]) B R rfl (fun Lf=>?_) (C9 fun zz zz=>rfl) rfl ∅
 ·refine AJ (B8 (Bq B () P.iH () (cy w) (SQ w) (BW (CR (AG () (BB ⟨⟨_,_,.tup⟩,Fc (!CX o1) () (!CX o2)
   (Ez B (I3 w) JD (Aa (Pi R.handled (Pg (NS () (!Bc _) ⟨[],rfl,trivial,[],Ss,!Bc _,id,by simp,fun D nD nb=>?_⟩)) ())))⟩))))))
  refine LR P nD fun a0 hD P1 F1 nf ks=>?_;refine LZ hD (!Bc _) ?_;exact fQ (nd:=(x,[])) B (R.deeper _) P1 S e (!Bc _) ho (by simp) hz n hS fun m d L' σ' P' F'=>q m d L' σ' P' (F1.trans F')
theorem AS.takeG(P:AS σ L c)(s₀ s₁:Slot){a:AB}{x y:AO}{c':HS}{Ψ:AA→Prop}(ha:σ a=some x)(F:Fm τ c0 L0 σ c L)(a1:A6 c0 L0 a∨τ a=none)(nf:¬A6 c L a)(hf:GG s₀=some s₁)
  (e0:Al c' (L.put s₀ a) s₀=some x)(e1:Al c' (L.put s₀ a) s₁=some y)(hs:∀t,t≠s₀→t≠s₁→∀z,Al c' L t=some z→Al c L t=some z)
  (q:∀σ',AS σ' (L.put s₀ a) c'→Fm τ c0 L0 σ' c' (L.put s₀ a)→(∀b,b≠L s₁→σ' b=σ b)→(∀b,b≠a→¬A6 c L b→¬A6 c' (L.put s₀ a) b)→Ψ σ')(m:Al c L s₁≠none):Ψ (Internal.upd σ (L s₁) y):=by
 have a0:∀t,t≠s₀→t≠s₁→∀z,Al c' (L.put s₀ a) t=some z→Al c L t=some z:=fun t h0 m z hz=>by
  rw[WA hf m]at hz;exact hs t h0 m z hz
 have fp:∀b,A6 c' (L.put s₀ a) b→b=a∨A6 c L b:=fun b f=>AI f fun s hq e=>by
  by_cases h0:s=s₀
  ·exact .inl (e.symm.trans ((congrArg (L.put s₀ a) h0).trans (GO _ _ _)))
  ·refine .inr ⟨s,?_,(Bd _ _ h0).symm.trans e⟩;by_cases h:s=s₁
   ·rw[h];exact m
   ·refine AX (Ee.mp hq) fun z hz=>?_;rw[a0 s h0 h z hz];exact Ag _
 refine q _ (P.attach s₀ s₁ ha nf m (Zw hf) e0 e1 a0 ⟨J8 hf rfl,J8 hf rfl,J8 hf rfl⟩) ⟨fun b n f=>?_,fun b f=>(fp b f).elim (fun e=>by rw[e];exact a1) (F.foot b),(Bd _ _ (J8 hf rfl).symm).trans F.root⟩ (fun b hb=>Av _ _ hb) fun b hb nb f=>(fp b f).elim hb nb;have a2:b≠L s₁:=fun e=>(F.foot b ⟨s₁,m,e.symm⟩).elim f n;rw[Av _ _ a2];exact F.keep b n f
abbrev Eu(c:HS):HS:={c with marks:=c.marks++[(c.changes.length,c.waiting)]}
set_option tactic.hygienic true in
theorem Y3(B:Ai)(R:Ah A 1)(P:AS σ L c)(z2:c.changes.length≤1000)(z5:c.waiting.length≤1000)(zm:c.marks.length≤1000)
  (q:∀L' σ',AS σ' L' (Eu c)→Fm σ c L σ' (Eu c) L'→Φ .none σ'):AF A (.ref 422) [.ref (L .hp)] σ Φ:=by
 refine AF.def (F:=(UR w)) (names:=["self"]) B R rfl (fun Lf=>?_) (FG fun _=>rfl) rfl ∅
 ·have e1:=P.at_ .marks _ rfl;have e2:=P.at_ .changes _ rfl;have e3:=P.at_ .waiting _ rfl;refine AJ (Be (CY Fj Fk (BM B () P.iH (Sk w) RM ⟨rfl,e1,Aa (Bt (BW
   (Bl B (CW w) CV (Aa (BM B () P.iH (Iu w) JE (Ce e2 (by rw[AU,Em];exact ln z2 rfl)
   (Ez B (JW w) It (Aa (BM B () P.iH (Pa w) M3 (KS e3 (by rw[AU];exact ln z5 rfl) fun D nD nb=>?_))))))))))⟩)))
  rw[AU,Em];refine⟨!ld rfl,?_⟩;refine LR P nD fun a0 hD P1 F1 nf ks=>?_;have e1:=P1.at_ .marks _ rfl;refine E7 e1 (by rw[AU,Em];exact ln zm rfl) ?_;refine S6 P1 (.mark c.marks.length) .marks (τ:=σ) (c':=Eu c) hD nD F1 nf rfl ?_ ?_ (fun t t0 t1 z m=>?_) fun a1 P2 F2=>Ax (q _ _ P2 F2)
  ·show((c.marks++[_])[c.marks.length]?.map _)=_;rw[Ik (A9 _),QR];rfl
  ·show some (AO.list ((c.marks++[_]).zipIdx.map _))=_;rw[Nx,Cr];have:c.marks.zipIdx.map (fun p=>AV.tup [.int p.1.1,.ref (L.put (.mark c.marks.length) D (.mark p.2))])=c.marks.zipIdx.map fun p=>AV.tup [.int p.1.1,.ref (L (.mark p.2))]:=by
    refine Dr fun p hp=>?_;obtain⟨x,j⟩:=p;have hj:j<c.marks.length:=by
     have:=List.mem_zipIdx hp;exact Nat.lt_of_lt_of_eq this.2.1 (Nat.zero_add _)
    rw[Bd _ _ (by intro e;obtain rfl:=Internal.Slot.mark.inj e;exact absurd hj (EI _))]
   rw[this];simp
  ·refine Yr m t1 fun i e0 m=>?_;change((c.marks++[_])[i]?.map _)=_ at m;show(c.marks[i]?.map _)=_;by_cases n:i<c.marks.length
   ·rw[El n]at m;exact m
   ·exfalso;rw[Ik (!EM n)]at m;have:i-c.marks.length≠0:=fun e=>t0 (by rw[e0,show i=c.marks.length by exact oW n e]);refine AX (i8 this) fun k hk=>?_;rw[hk]at m;cases m
theorem vS(m:AY){k:Nat}{l:List Nat}{D:AB}(e:AH c.abo k=none):
  Aw (c.abo.map fun p=>((p.1:Int),AV.ref (m (.abv p.1)))) (k:Int) (.ref D)=(Aw c.abo k l).map fun p=>((p.1:Int),AV.ref (m.put (.abv k) D (.abv p.1))):=by
 unfold Aw;rw[Qk (fun i=>AV.ref (m (.abv i))),e];simp only[Option.map_none,YK,HN,if_false];rw[Cr];congr 1
 ·refine Dr fun p hp=>?_;have:p.1≠k:=fun n=>by
   have:AH c.abo p.1≠none:=by
    unfold AH;simp only[ne_eq,Ze6,YI];intro h;exact absurd (by simp) (h p hp)
   rw[n,e]at this;exact this rfl
  rw[Bd _ _ (by simpa using this)]
 ·simp
theorem Fm.fresh(F:Fm τ c0 L0 σ c L)(n:σ D=none):A6 c0 L0 D∨τ D=none:=by
 by_cases f:A6 c0 L0 D
 ·exact .inl f
 ·refine .inr ?_;cases z:τ D with
  |none=>rfl
  |some v=>have:=F.keep D (by rw[z];exact Ag _) f;rw[n,z]at this;exact Au this
abbrev bT(k m g:Nat)(U:AB):AV:=.tup [.str "edge",.int k,.int m,.int g,.ref U]
theorem xv(B:Ai)(R:Ah A 1)(P:AS σ L c)(he:c.edges=es++[e])(z:es.length≤1000)
  (q:∀σ',AS σ' L {c with edges:=es}→Fm σ c L σ' {c with edges:=es} L→Φ .none σ'):AF A (.ref 457) [.ref (L .hp),bT k m k U] σ Φ:=by
 refine AF.def (F:=(Se w)) (names:=["self","change"]) B R rfl (fun Lf=>?_) (C9 fun zz zz=>rfl) rfl ∅
 ·refine AJ (BR (AG () (Ex R.handled (.tup _) rfl (BY (A2 (BY (A2 (BY (A2 (BY (A2 (BY (A2 (Da ?_))))))))))))));have n:σ (L .edges)=some (.list (es++[e])):=by rw[←he];exact P.at_ .edges _ rfl
  refine AJ (Be (CY FO Fl (BM B () P.iH (Ok w) PD ⟨rfl,n,AC.nil (FJ n (!ln z rfl) ?_)⟩)));refine Cz P .edges (c':={c with edges:=es}) (by first|exact Ag _|(show some _=some _;simp)) fun a0 P1 F1 zz=>?_
  refine AJ (CM (Bg (AG () (AG () (NO (BO ?_))))));refine Ba (show(not (decide ((k:Int)=(k:Nat))))=false by simp) ?_;exact Ax (Ax (q _ P1 F1))
abbrev Si(c:HS)(es:List AV)(fs:List Nat)(ms:List (Nat×Nat))(k m g:Nat)(l1 us n:List Nat):HS:=
 {c with edges:=es,forest:=fs,merged:=ms,uab:=c.uab.set g g,lots:=c.lots.set k l1,abo:=Aw (Aw c.abo k (n.take m)) g us}
structure Ml(c:HS)(es:List AV)(e:AV)(fs:List Nat)(f:Nat)(ms:List (Nat×Nat))(k m g:Nat)(l1 l2 us lk:List Nat):Prop where
 he:c.edges=es++[e]
 hf:c.forest=fs++[f]
 hm:c.merged=ms++[(k,g)]
 hk:k≠g
 hg:g<c.uab.length
 h1:c.lots[k]? =some (l1++l2)
 h2:c.lots[g]? =some l2
 O:N9 c
 sz:c.uab.length≤1000
 ek:AH c.abo k=some lk
 eg:AH c.abo g=none
 zk:lk.length≤1000
 z1:c.edges.length≤1000
 z2:c.forest.length≤1000
 z3:c.abo.length≤1000
def Zbi{a0 a1 a2 a3 a4 a5 a6 a7 a8 a9 m n b0}{c:Prop}:=@Ml.casesOn a0 a1 a2 a3 a4 a5 a6 a7 a8 a9 m n b0 (fun zz=>c)
def V8(σ:AA)(τ:AA)(A:Ab)(c:HS)(c0:HS)(L:AY)(L0:AY)(es:List AV)(e:AV)(fs:List Nat)(f:Nat)(ms:List (Nat×Nat))(k:Nat)(m:Nat)(g:Nat)(l1:List Nat)(l2:List Nat)(n:List Nat)(lk:List Nat)(U:AB)(Φ:AV→AA→Prop):Prop:=∀(B:Ai)(R:Ah A 2)(P:AS σ L c)(O:Ml c es e fs f ms k m g l1 l2 n lk)(hU:σ U=some (.list (nats n)))(nU:¬A6 c L U)(F:Fm τ c0 L0 σ c L)(fU:A6 c0 L0 U∨τ U=none)(q:∀L' σ',AS σ' L' (Si c es fs ms k m g l1 n lk)→Fm τ c0 L0 σ' (Si c es fs ms k m g l1 n lk) L'→Φ .none σ'),AF A (.ref 457) [.ref (L .hp),bT k m g U] σ Φ
def YW:((((AA×AA)×Ab)×((HS×HS)×AY))×(((AY×List AV)×AV)×(List Nat×Nat)))×(((((List (Nat×Nat))×Nat)×Nat)×(Nat×List Nat))×(((List Nat×List Nat)×List Nat)×(AB×(AV→AA→Prop))))→Prop:=fun t=>V8 t.1.1.1.1.1 t.1.1.1.1.2 t.1.1.1.2 t.1.1.2.1.1 t.1.1.2.1.2 t.1.1.2.2 t.1.2.1.1.1 t.1.2.1.1.2 t.1.2.1.2 t.1.2.2.1 t.1.2.2.2 t.2.1.1.1.1 t.2.1.1.1.2 t.2.1.1.2 t.2.1.2.1 t.2.1.2.2 t.2.2.1.1.1 t.2.2.1.1.2 t.2.2.1.2 t.2.2.2.1 t.2.2.2.2
def Dv:=zE YW ((((((fun _=>none),(fun _=>none)),{}),((Dy,Dy),(fun _=>0))),((((fun _=>0),[]),.none),([],0))),(((([],0),0),(0,[])),((([],[]),[]),(0,(fun _ _=>True)))))
def du:=Dv.1.1.1.1.1
def ky:=Dv.1.1.1.1.2
def vh:=Dv.1.1.1.2
def Dk:=Dv.1.1.2.1.1
def uc:=Dv.1.1.2.1.2
def JO:=Dv.1.1.2.2
def xU:=Dv.1.2.1.1.1
def Kj:=Dv.1.2.1.1.2
def Jz:=Dv.1.2.1.2
def MO:=Dv.1.2.2.1
def Zl:=Dv.1.2.2.2
def OA:=Dv.2.1.1.1.1
def Fy:=Dv.2.1.1.1.2
def Ga:=Dv.2.1.1.2
def Ir:=Dv.2.1.2.1
def RU:=Dv.2.1.2.2
def u0:=Dv.2.2.1.1.1
def M6:=Dv.2.2.1.1.2
def HZ:=Dv.2.2.1.2
def H5:=Dv.2.2.2.1
def lp:=Dv.2.2.2.2
theorem sf:V8 du ky vh Dk uc JO xU Kj Jz MO Zl OA Fy Ga Ir RU u0 M6 HZ H5 lp:=fun B R P O hU nU F fU q=>by
 refine Zbi O fun he hf hm hk hg h1 h2 OO sz ek eg zk z1 z2 z3=>?_;refine AF.def (F:=(Se w)) (names:=["self","change"]) B R rfl (fun Lf=>?_) (C9 fun _ _=>rfl) rfl ∅
 ·refine AJ (BR (AG () (Ex R.handled (.tup _) rfl (BY (A2 (BY (A2 (BY (A2 (BY (A2 (BY (A2 (Da ?_))))))))))))));have e1:du (JO .edges)=some (.list (Kj++[Jz])):=by rw[←he];exact P.at_ .edges _ rfl
  rw[he]at z1;rw[hf]at z2;simp at z1 z2;refine AJ (Be (CY FO Fl (BM B () P.iH (Ok w) PD ⟨rfl,e1,AC.nil (FJ e1 (!ln z1 rfl) ?_)⟩)));refine Cz P .edges (c':={Dk with edges:=Kj}) (by first|exact Ag _|(show some _=some _;simp)) fun a3 P1 F1 _=>?_
  refine AJ (CM (Bg (AG () (AG () (NO (BO ?_))))));refine CN (show(not (decide ((Fy:Int)=(Ir:Nat))))=true by simp;exact Am vV hk) ?_;have e2:a3 (JO .forest)=some (.list (nats MO++[.int Zl])):=by have:=P1.at_ .forest _ rfl;rw[this];show some (AO.list (nats Dk.forest))=_;rw[hf];simp
  refine AJ (Be (CY FO Fl (BM B () P1.iH (VF w) Uc ⟨rfl,e2,AC.nil (FJ e2 (by rw[AU];exact ln z2 rfl) ?_)⟩)));refine Cz P1 .forest (c':={Dk with edges:=Kj,forest:=MO}) (by first|exact Ag _|(show some _=some _;simp)) fun b7 P2 F2 _=>?_
  have e3:=P2.at_ .merged _ rfl;have ml:=OO.m;refine AJ (Be (Cy B () P2.iH (I6 w) JB P2.iU () (sU w) (fB w) (Aa (CE (Bl B (CW w) CV (Aa (Sw B (BM B () P2.iH (I6 w) JB ⟨_,_,_,_,_,_,rfl,P2.iU,OB w,PP,trivial,
   Ce e3 (by rw[AU];show Dk.merged.length≤_;exact ln ml rfl) (BB (NL ?_))⟩) (by intro zz;with_unfolding_all rfl))))))))
  rw[AU];have:((Dk.merged.length:Nat):Int)-1=(OA.length:Nat):=by rw[hm];simp
  show AF _ _ [_,.int (((Dk.merged.length:Nat):Int)-1)] _ _;rw[this];refine yJ B (R.deeper _) P2 hm hk hg h1 h2 ⟨OO.len,OO.sz,OO.m⟩ sz fun b6 P3 F3=>?_;have a2:=F.trans (F1.trans (F2.trans F3));refine AL ((F1.trans (F2.trans F3)).out hU nU) fun a0 a4=>?_;have e5:=P3.at_ .above _ rfl;refine AJ (BR (So (HG B () P3.iH (Fn w) GJ () (.dictI e5) (DK.get (FR w) e5 (Ho ek) ?_))));refine AG () ⟨Ga,rfl,⟨_,_,.list (H8 P3 ek)⟩,JF.list (ys:=(nats HZ).take Ga) (H8 P3 ek) (by rw[AU];exact ln zk rfl) (.inl ⟨Ga,rfl,rfl,rfl⟩) fun D nD nb=>?_⟩;refine Pj P3 nD fun b3 hD P4 F4 nf ks=>?_;have a9:b3 H5=some (.list (nats M6)):=by rw[ks H5 (by rintro rfl;exact Au ((nD.symm.trans a0)))];exact a0
  have a1:¬A6 _ JO H5:=a4;have b0:D≠H5:=by rintro rfl;exact Au ((nD.symm.trans a0))
  have e8:=P4.at_ .above _ rfl;refine KR (BM B () P4.iH (Fn w) GJ (AG () (DK.set (FR w) e8 (by rw[AU];show Dk.abo.length≤_;exact ln z3 rfl) ?_)));have e9:=Y7 (c:=Dk) JO (l:=HZ.take Ga) (D:=D) ek;refine P4.takeG (.abv Fy) .above (c':={Dk with edges:=Kj,forest:=MO,merged:=OA,uab:=Dk.uab.set Ir Ir,lots:=Dk.lots.set Fy RU,abo:=Aw Dk.abo Fy (HZ.take Ga)}) (x:=.list ((nats HZ).take Ga)) hD (a2.trans F4) (a2.fresh nD) nf rfl ?_ ?_ (fun t t0 t1 z n=>?_) (fun b2 P5 F5 k5 f5=>?_) (by first|exact Ag _|(show some _=some _;simp)) (Ψ:=fun σ'=>EX _ _ _ _ σ' _)
  ·show((AH (Aw _ _ _) _).map _)=_;rw[Di,if_pos rfl];show some (AO.list ((HZ.take Ga).map _))=_;rw[List.map_take]
  ·show some (AO.dictI _)=some (AO.dictI _);exact congrArg (fun x=>some (AO.dictI x)) e9.symm
  ·refine RO n t1 fun i Jz n=>?_;change((AH (Aw _ _ _) i).map _)=_ at n;rw[Di,if_neg (fun q=>t0 (by rw[Jz,q]))]at n;exact n
  have a6:JO.put (.abv Fy) D .hp=JO .hp:=Bd _ _ (by simp);have a5:b2 H5=some (.list (nats M6)):=by
   rw[k5 H5 (fun Jz=>a1 ⟨.above,!Ag _,Jz.symm⟩)];exact a9
  have b4:¬A6 {Dk with edges:=Kj,forest:=MO,merged:=OA,uab:=Dk.uab.set Ir Ir,lots:=Dk.lots.set Fy RU,abo:=Aw Dk.abo Fy (HZ.take Ga)} (JO.put (.abv Fy) D) H5:=f5 H5 (Ne.symm b0) a1;have b1:=P5.at_ .above _ rfl;have a7:AH (Aw Dk.abo Fy (HZ.take Ga)) Ir=none:=by rw[Di,if_neg (Ne.symm hk)];exact eg
  have a8:=vS (c:={Dk with abo:=Aw Dk.abo Fy (HZ.take Ga)}) (JO.put (.abv Fy) D) (l:=M6) (D:=H5) a7;refine AJ (BR (AG () (KR (BM B (by rw[a6];rfl) P5.iH (Fn w) GJ (AG () (DK.set (FR w) b1 (by rw[AU];show(Aw Dk.abo Fy (HZ.take Ga)).length≤_;unfold Aw;rw[ek];simp;exact ln z3 rfl) ?_))))));refine P5.takeG (.abv Ir) .above (c':=Si Dk Kj MO OA Fy Ga Ir RU M6 HZ) (x:=.list (nats M6)) a5 F5 fU b4 rfl ?_ ?_ (fun t t0 t1 z n=>?_) (fun b5 P6 F6 _ _=>?_) (by first|exact Ag _|(show some _=some _;simp)) (Ψ:=fun σ'=>EX _ _ _ _ σ' _)
  ·show((AH (Aw _ _ _) _).map _)=_;rw[Di,if_pos rfl];rfl
  ·show some (AO.dictI _)=some (AO.dictI _);exact congrArg (fun x=>some (AO.dictI x)) a8.symm
  ·refine RO n t1 fun i Jz n=>?_;change((AH (Aw _ _ _) i).map _)=_ at n;rw[Di,if_neg (fun q=>t0 (by rw[Jz,q]))]at n;exact n
  ·exact Ax (Ax (q _ _ P6 F6))
theorem ye{σ τ A c c0 L L0 es e fs f ms k m g l1 l2 us n U Φ}:V8 σ τ A c c0 L L0 es e fs f ms k m g l1 l2 us n U Φ:=@zF _ YW _ @sf (((((σ,τ),A),((c,c0),L)),(((L0,es),e),(fs,f))),((((ms,k),m),(g,l1)),(((l2,us),n),(U,Φ))))
abbrev Cv(ab:List (Nat×List Nat))(c:Nat):List (Nat×List Nat):=Aw ab c ((AH ab c).getD []).dropLast
theorem fq:∀{ks:List Nat}{ab:List (Nat×List Nat)}{j:Nat},j∉ks→AH (ks.foldl Cv ab) j=AH ab j:=by
 intro ks
 induction ks with
 |nil=>
  intro ab j _;exact rfl
 |cons k ks m=>
  intro ab j h;rw[A7,not_or]at h;rw[MB,m h.2];unfold Cv;rw[Di,if_neg h.1]
structure WX(c:HS)(n:Nat)(nd:Nd)(ns:List Nd)(ab:List Nat)(ls:List (List Nat)):Prop where
 nodes:c.nodes=ns++[nd]
 nn:ns.length=n
 uab:c.uab=ab++[n]
 nu:ab.length=n
 lots:c.lots=ls++[[n]]
 nl:ls.length=n
 U:By c.uab
 B:SE c
 kl:nd.2.length≤2
 kn:∀k∈nd.2,k<n
 num:(AH c.nums nd).isSome=true
 us:∀r∈ss (nd.2.map c.find),∃l x,AH c.abo r=some (l++[x])∧l.length≤1000
 abn:(AH c.abo n).isSome=true
 za:c.abo.length≤1000
abbrev RQ(c:HS)(n:Nat)(nd:Nd)(ab:List Nat)(m:List (List Nat)):HS:=
 {IC c nd with uab:=ab,lots:=m,made:=n,abo:=BP ((ss (nd.2.map c.find)).foldl Cv c.abo) n}
theorem ud:∀{ks:List Nat}{ab:List (Nat×List Nat)},(∀r∈ks,(AH ab r).isSome=true)→(ks.foldl Cv ab).length=ab.length:=by
 intro ks
 induction ks with
 |nil=>
  intro ab _;exact rfl
 |cons k ks m=>
  intro ab h;have n:=h k (.head _);rw(config:={}) [MB,m (fun r hr=>?_)]
  ·unfold Cv Aw;rw(config:={}) [if_pos n];exact AU _
  ·unfold Cv;rw(config:={}) [Di];split
   ·rfl
   ·exact h r (.tail _ hr)
set_option tactic.hygienic true in
def VK(σ:AA)(A:Ab)(c:HS)(L:AY)(n:Nat)(nd:Nd)(ns:List Nd)(ab:List Nat)(m:List (List Nat))(Φ:AV→AA→Prop):Prop:=∀(B:Ai)(R:Ah A 6)(P:AS σ L c)(O:WX c n nd ns ab m)(q:∀σ',AS σ' L (RQ c n nd ab m)→Fm σ c L σ' (RQ c n nd ab m) L→Φ .none σ'),AF A (.ref 450) [.ref (L .hp),.int n] σ Φ
def eL:(((AA×Ab)×HS)×(AY×Nat))×(((Nd×List Nd)×List Nat)×(List (List Nat)×(AV→AA→Prop)))→Prop:=fun t=>VK t.1.1.1.1 t.1.1.1.2 t.1.1.2 t.1.2.1 t.1.2.2 t.2.1.1.1 t.2.1.1.2 t.2.1.2 t.2.2.1 t.2.2.2
def IH:=zE eL (((((fun _=>none),{}),Dy),((fun _=>0),0)),(((Bk,[]),[]),([],(fun _ _=>True))))
def My:=IH.1.1.1.1
def tm:=IH.1.1.1.2
def Bj:=IH.1.1.2
def HA:=IH.1.2.1
def Ev:=IH.1.2.2
def D8:=IH.2.1.1.1
def V7:=IH.2.1.1.2
def Ri:=IH.2.1.2
def Qp:=IH.2.2.1
def nA:=IH.2.2.2
set_option tactic.hygienic true in
theorem qN:VK My tm Bj HA Ev D8 V7 Ri Qp nA:=fun B R P O q=>by
 have sz:=O.B.n;have b1:Bj.uab.length=Ev+1:=by rw[O.uab,BJ,O.nu];rfl
 have c5:Bj.nodes.length=Ev+1:=by rw[O.nodes,BJ,O.nn];rfl
 have b2:Bj.nodes[Ev]? =some D8:=by rw[O.nodes,Ik (by rw[O.nn];exact A9 _),O.nn];simp
 have c1:∀k∈D8.2,k<Bj.uab.length:=fun k hk=>by have:=O.kn k hk;exact AK this (Ct (Ac b1.symm))
 have kl:=O.kl;have za:=O.za;refine GQ (F:=(We w).2) (names:=["self","n"]) B R rfl (fun Lf=>?_) (C9 fun _ _=>rfl) rfl ∅
 ·refine AJ (Gl R.handled (Ey (Su B R.handled (Sp B (x:="kid") (ks:=D8.2) (R.up rfl) (Cy B () P.iH (Kr w) K0 P.iB () (Zo w) (Uj w).2 (Aa (AG ()
   (Yt B (R.up rfl) P b2 sz (!ln kl rfl) ⟨rfl,P,O.U,c1,!ln kl rfl,fun D5 a3 c8=>?_⟩))))
   () ⋯ () (fun _=>by rfl) (fun _=>by rfl) (fun _=>by rfl) ⋯))))
  have P5:=P.ext (.new (x:=.list (nats (D8.2.map Bj.find))) a3);refine⟨_,_,rfl,Ao _ _ _,by rw[AU];exact ln (CD kl) rfl,fun E nE c9=>?_⟩;have P6:=P5.ext (.new (x:=.list (nats (Internal.ss (D8.2.map Bj.find)))) nE);have b4:=P5.out nE;have X6:Ap My (upd (upd My D5 (.list (nats (D8.2.map Bj.find)))) E (.list (nats (Internal.ss (D8.2.map Bj.find))))):=(Ap.new a3).trans (.new nE);have c2:=X6.fm (c:=Bj) (L:=HA);have hE:=Ao (upd My D5 (.list (nats (D8.2.map Bj.find)))) E (.list (nats (Internal.ss (D8.2.map Bj.find))));generalize upd (upd My D5 (.list (nats (D8.2.map Bj.find)))) E (.list (nats (Internal.ss (D8.2.map Bj.find))))=σ6 at*;have a8:=O.us;have a7:=Pd (D8.2.map Bj.find);have a4:Ev∉Internal.ss (D8.2.map Bj.find):=fun h=>by
   refine AI (BD.mp (M5.mp h)) fun k hk e=>?_;have h1:=O.kn k hk;have h2:Bj.find k≤k:=Jt _ _;exact EI _ (AK (AK h1 (Ac e.symm)) h2)
  have b5:RQ Bj Ev D8 Ri Qp={IC Bj D8 with uab:=Ri,lots:=Qp,made:=Ev,abo:=BP ((Internal.ss (D8.2.map Bj.find)).foldl Cv Bj.abo) Ev}:=rfl;rw[b5]at q;generalize Internal.ss (D8.2.map Bj.find)=kk at*;refine⟨E,_,rfl,hE,trivial,trivial,kk.length,fun i ρ' σ'=>i≤kk.length∧ρ' "self"=some (.ref (HA .hp))∧ρ' "n"=some (.int Ev)∧AS σ' HA {Bj with abo:=(kk.take i).foldl Cv Bj.abo}∧Fm My Bj HA σ' {Bj with abo:=(kk.take i).foldl Cv Bj.abo} HA∧σ' E=some (.list (nats kk))∧¬A6 {Bj with abo:=(kk.take i).foldl Cv Bj.abo} HA E,
   ⟨!Bc _,by rfl,by rfl,P6,c2,hE,b4⟩,?_⟩
  rintro i ρ' σ' ⟨hi,r1,r2,P',F',a5,b3⟩;refine⟨hi,_,⟨_,a5,rfl⟩,?_⟩;rw[CH];cases hq:kk[i]? with
  |some k=>
   have a0:=(BX.mp hq).1;have c3:k∉kk.take i:=fun hm=>by
    obtain⟨j,hj,b7⟩:=List.mem_take_iff_getElem.mp hm;have h2:=(BX.mp hq).2;have:=QK.mp a7 j i (!xE hj) a0 (!yi hj);exact EI _ (AK (AK (CD (Ac h2)) (CD (Ac b7.symm))) this)
   refine Cp (a8 k (C6 hq)) fun l x a1 a2=>?_;have hl:AH ((kk.take i).foldl Cv Bj.abo) k=some (l++[x]):=by rw[fq c3];exact a1
   have et:kk.take (i+1)=kk.take i++[k]:=by rw[Gy,hq];rfl
   have ef:(kk.take (i+1)).foldl Cv Bj.abo=Aw ((kk.take i).foldl Cv Bj.abo) k l:=by
    rw[et,QS,MB,List.foldl_nil];unfold Cv;rw[hl];simp
   have ea:=P'.at_ .above _ rfl;have el:=H8 P' hl;have a9:σ' (HA (.abv k))=some (.list (nats l++[.int x])):=by rw[el];simp
   refine A2 (AJ (Be (CY FO Fl (HG B (by rw[AN ⋯];exact r1) P'.iH (Fn w) GJ As (.dictI ea) (DK.get (FR w) ea (Ho hl)
    ⟨rfl,a9,AC.nil (FJ a9 (by rw[AU];exact ln a2 rfl) ?_)⟩)))))
   refine Cz P' (.abv k) (c':={Bj with abo:=(kk.take (i+1)).foldl Cv Bj.abo}) ?h1 (fun c4 P7 F7 k7=>Ax ⟨!a0,by rw[AN ⋯];exact r1,by rw[AN ⋯];exact r2,P7,F'.trans F7,F7.out a5 b3⟩) (by show(AH _ k).map _≠none;rw[hl];simp) ?h2
   case h1=>
    show(AH ((kk.take (i+1)).foldl Cv Bj.abo) k).map _=_;rw[ef,Di,if_pos rfl];rfl
   case h2=>
    intro t ht y hy;cases t<;>first|exact hy|skip
    ·change some (AO.dictI (((kk.take (i+1)).foldl Cv Bj.abo).map _))=_ at hy;rw[ef]at hy;rw[←hy];have pk:=Yq (K:=Nat) (fun(j:Nat)=>AV.ref (HA (.abv j))) (v:=l) hl;have a6:=congrArg (Il fun p:Nat×AV=>((p.1:Int),p.2)) pk;rw[Bu,Bu]at a6;exact congrArg (fun x=>some (AO.dictI x)) a6.symm
    ·rename_i j;change((AH ((kk.take (i+1)).foldl Cv Bj.abo) j).map _)=_ at hy;rw[ef,Di,if_neg (fun e=>ht (by rw[e]))]at hy;exact hy
  |none=>
   have a0:i=kk.length:=by have:=GV.mp hq;exact Ej hi this
   subst a0;rw[iq]at P' F';have ea:=P'.at_ .above _ rfl;have b0:(kk.foldl Cv Bj.abo).length=Bj.abo.length:=ud fun r hr=>by refine Cp (a8 r hr) fun l x h _=>?_;rw[h];rfl
   refine AX (Ll.mp O.abn) fun l0 a1=>?_;have b6:AH (kk.foldl Cv Bj.abo) Ev=some l0:=by rw[fq a4];exact a1
   refine AJ (gk (BM B r1 P'.iH (Fn w) GJ (AG r2 (Zcs (FR w) ea (by rw[AU];show(kk.foldl Cv Bj.abo).length≤_;exact ln (AK (Ac b0) za) rfl) (by rw[Ho (L:=HA) b6];rfl) ?_))));have ed:BP ((kk.foldl Cv Bj.abo).map fun p=>((p.1:Int),AV.ref (HA (.abv p.1)))) (Ev:Int)=(BP (kk.foldl Cv Bj.abo) Ev).map fun p=>((p.1:Int),AV.ref (HA (.abv p.1))):=by
    unfold BP;rw[Jl];refine congrArg _ (Tn fun p _=>?_);simp only[Nw];exact decide_eq_decide.mpr (!Am ZS)
   refine Cz P' .above (c':={Bj with abo:=BP (kk.foldl Cv Bj.abo) Ev}) (congrArg (fun x=>some (AO.dictI x)) ed.symm) (fun c4 P7 F7 _=>?_) (by first|exact Ag _|(show some _=some _;simp)) ?h3
   case h3=>
    intro t ht y hy;cases t<;>first|exact hy|exact absurd rfl ht|skip
    rename_i j;change((AH (BP _ _) j).map _)=_ at hy;rw[Sj]at hy;split at hy
    ·exact Au hy
    ·exact hy
   refine AJ (Be (Cy B r1 P7.iH (I6 w) JB P7.iU () (zA w) (WU w).2 (Aa (AG r2 (jM B (R.deeper _ |>.mono (!A9 _)) P7 O.U O.uab O.lots O.nu O.nl fun c6 P8 F8=>?_)))));refine AJ (Be (Cy B r1 P8.iH (Kr w) K0 P8.iB () (yQ w) (Uh w).2 (Aa (AG r2 ?_))));rw[show AV.int ((Ev:Nat):Int)=.int (V7.length:Nat) by rw[O.nn]];refine tU (n:=D8) (ns:=V7) B (R.up rfl) P8 ⟨O.B.n,O.B.w,O.B.d,O.B.m⟩ O.nodes O.num fun d1 P9 F9=>?_;refine AJ (BR (AG r2 (Pm B (AG r1 ?_))));refine⟨_,_,_,_,_,11,rfl,P9.iH,Vk w,.inr ⟨rfl,by rw[WH];simp⟩,!ld rfl,?_⟩;rw[eG (m:=Ev)];refine Cz P9 .hdx (c':={IC Bj D8 with uab:=Ri,lots:=Qp,made:=Ev,abo:=BP (kk.foldl Cv Bj.abo) Ev}) (hs:=by intro t ht y hy;cases t<;>first|exact absurd rfl ht|exact hy) rfl fun d2 P4 F4 _=>?_
   exact Ax (q _ P4 (F'.trans (F7.trans (F8.trans (F9.trans F4)))))
theorem zf{σ A c L n nd ns ab m Φ}:VK σ A c L n nd ns ab m Φ:=@zF _ eL _ @qN ((((σ,A),c),(L,n)),(((nd,ns),ab),(m,Φ)))
inductive KJ:HS→HS→Prop
 |known {c:HS} {chs:List Ch} {k:Nd}:c.changes=chs++[.known k]→(AH c.known k).isSome=true→c.known.length≤1000→KJ c {c with changes:=chs,known:=BP c.known k}
 |loose {c:HS} {chs:List Ch} {k m:Nat} {es:List AV} {e:AV}:c.changes=chs++[.loose k m k]→c.edges=es++[e]→es.length≤1000→KJ c {c with changes:=chs,edges:=es}
 |edge {c:HS} {chs:List Ch} {es:List AV} {e:AV} {fs:List Nat} {f:Nat} {ms:List (Nat×Nat)} {k m g:Nat} {l1 l2 us lk:List Nat}:c.changes=chs++[.edge k m g us]→Ml c es e fs f ms k m g l1 l2 us lk→
   KJ c (Si {c with changes:=chs} es fs ms k m g l1 us lk)
 |made {c:HS} {chs:List Ch} {n:Nat} {nd:Nd} {ns:List Nd} {ab:List Nat} {ls:List (List Nat)}:c.changes=chs++[.made n]→WX c n nd ns ab ls→KJ c (RQ {c with changes:=chs} n nd ab ls)
structure OY(many:Nat)(J:Nat→HS→Prop):Prop where
 len:∀m c,J m c→c.changes.length=many+m∧c.changes.length≤1000
 step:∀m c,J (m+1) c→∃c',KJ c c'∧J m c'
theorem mc:(fun y=>if y=("backs":Str)then some (AV.int m)else DM c L y)=DM {c with backs:=m} L:=funext fun y=>Wj (y:=y) (l1:=(hP c L).take 7) (l2:=(hP c L).drop 8) (v':=.int c.backs) (show("backs":Str)∉hN.take 7 by decide+kernel)
theorem jq:(fun y=>if y=("waiting":Str)then some (AV.ref a)else DM c L y)=DM c (L.put .waiting a):=funext fun y=>Wj (y:=y) (l1:=(hP c L).take 6) (l2:=(hP c L).drop 7) (v':=.ref (L .waiting)) (show("waiting":Str)∉hN.take 6 by decide+kernel)
theorem AS.wait(P:AS σ L c)(ha:σ a=some (.list (nats ws)))(na:¬A6 c L a)(F:Fm τ c0 L0 σ c L)(fa:A6 c0 L0 a∨τ a=none){Ψ:AA→Prop}
  (q:∀σ',AS σ' (L.put .waiting a) (EU c ws)→Fm τ c0 L0 σ' (EU c ws) (L.put .waiting a)→Ψ σ'):
  Ψ (Internal.upd σ (L .hdx) (.ns 11 fun y=>if y=("waiting":Str)then some (AV.ref a)else DM c L y)):=by
 rw[jq];have ct:∀t,t≠.waiting→t≠.hdx→Al (EU c ws) (L.put .waiting a) t=Al c L t:=fun t m h2=>by
  cases t<;>first|exact absurd rfl m|exact absurd rfl h2|rfl
 have pt:∀t,t≠.waiting→L.put .waiting a t=L t:=fun t h=>Bd _ _ h;have hd:Al c L .hdx≠none:=by exact Ag _
 have ne:a≠L .hdx:=fun e=>na ⟨.hdx,hd,e.symm⟩;have a0:∀t,t≠.waiting→Al (EU c ws) (L.put .waiting a) t≠none→Al c L t≠none:=fun t h hz=>by
  by_cases h2:t=.hdx
  ·rw[h2];exact hd
  ·rw[←ct t h h2];exact hz
 refine q _ ⟨fun s y hy=>?_,fun s t hs ht e=>?_,?_⟩ ⟨fun b n f=>?_,fun b a1=>AI a1 fun s hs e=>?_,?_⟩
 ·by_cases m:s=.waiting
  ·subst m;obtain rfl:=An hy;rw[GO,Av _ _ ne];exact ha
  ·rw[pt s m];by_cases h2:s=.hdx
   ·subst h2;rw[Ao];exact hy
   ·rw[ct s m h2]at hy;rw[Av _ _ (fun e=>h2 (P.inj s .hdx (by rw[hy];exact Ag _) hd e))];exact P.at_ s y hy
 ·by_cases m:s=.waiting<;>by_cases h2:t=.waiting
  ·rw[m,h2]
  ·exfalso;rw[m,GO,pt t h2]at e;exact na ⟨t,a0 t h2 ht,e.symm⟩
  ·exfalso;rw[h2,GO,pt s m]at e;exact na ⟨s,a0 s m hs,e⟩
  ·rw[pt s m,pt t h2]at e;exact P.inj s t (a0 s m hs) (a0 t h2 ht) e
 ·rw[pt _ (!(by intro e;injection e)),pt _ (!(by intro e;injection e)),pt _ (!(by intro e;injection e))];exact P.n1
 ·have a2:b≠L .hdx:=by
   rintro rfl;rcases F.foot _ ⟨.hdx,hd,rfl⟩with g|g
   ·exact f g
   ·exact n g
  rw[Av _ _ a2];exact F.keep b n f
 ·by_cases m:s=.waiting
  ·subst m;rw[GO]at e;subst e;exact fa
  ·rw[pt s m]at e;exact F.foot b ⟨s,a0 s m hs,e⟩
 ·rw[pt _ (!(by intro e;injection e))];exact F.root
set_option tactic.hygienic true in
theorem AS.unlog(P:AS σ L c)(hc:c.changes=chs++[ch]){Ψ:AA→Prop}
  (q:∀σ',AS σ' L {c with changes:=chs}→Fm σ c L σ' {c with changes:=chs} L→(∀k m g us,ch=.edge k m g us→σ' (L (.users chs.length))=some (.list (nats us))∧A6 c L (L (.users chs.length))∧¬A6 {c with changes:=chs} L (L (.users chs.length)))→Ψ σ'):
  Ψ (Internal.upd σ (L .changes) (.list (chs.zipIdx.map fun p=>FD L p.2 p.1))):=by
 have a0:∀t,t≠Slot.changes→∀y,Al {c with changes:=chs} L t=some y→Al c L t=some y∧t≠.users chs.length:=by
  intro t ht y hy;cases t<;>first|exact⟨hy,by simp⟩|exact absurd rfl ht|skip
  rename_i j;change(chs[j]?.bind _)=_ at hy;cases hq:chs[j]? with
  |none=>rw[hq]at hy;cases hy
  |some v=>
   have hj:=(BX.mp hq).1;refine⟨?_,by simp;exact Bm hj⟩;show(c.changes[j]?.bind _)=_;rw[hc,El hj,hq];rw[hq]at hy;exact hy
 have hC:Al c L .changes≠none:=by exact(by intro e;injection e)
 refine q _ (P.upd .changes hC rfl fun t ht y hy=>(a0 t ht y hy).1) (P.updFm .changes hC fun t ht=>?_) fun k m g us e=>?_
 ·by_cases e:t=.changes
  ·rw[e];exact hC
  ·refine AX (Ee.mp ht) fun y hy=>?_;rw[(a0 t e y hy).1];exact Ag _
 ·subst e;have n:Al c L (.users chs.length)=some (.list (nats us)):=by
   show(c.changes[chs.length]?.bind _)=_;rw[hc,Ik (A9 _),QR];rfl
  have a2:L (.users chs.length)≠L .changes:=fun e=>by have:=P.inj _ .changes (by rw[n];exact Ag _) hC e;exact nomatch this
  refine⟨by rw[Av _ _ a2];exact P.at_ _ _ n,⟨_,by rw[n];exact Ag _,rfl⟩,fun a1=>AI a1 fun s hs e=>?_⟩;by_cases h:s=.changes
  ·subst h;exact a2 e.symm
  ·refine AX (Ee.mp hs) fun y hy=>?_;refine AL (a0 s h y hy) fun h1 h2=>?_;exact h2 (P.inj s _ (by rw[h1];exact Ag _) (by rw[n];exact Ag _) e)
set_option tactic.hygienic true in
def Wd(σ:AA)(A:Ab)(c:HS)(L:AY)(many:Nat)(J:Nat→HS→Prop)(ms:List (Nat×List Nat))(n:List Nat)(m:Nat)(Φ:AV→AA→Prop):Prop:=∀(B:Ai)(R:Ah A 7)(P:AS σ L c)(X:OY many J)(hm:c.marks=ms++[(many,n)])(zm:c.marks.length≤1000)(hJ:J m {c with marks:=ms,backs:=c.backs+1})(q:∀c' L' σ',J 0 c'→AS σ' L' (EU c' n)→Fm σ c L σ' (EU c' n) L'→Φ .none σ'),AF A (.ref 429) [.ref (L .hp)] σ Φ
def bA:(((AA×Ab)×HS)×(AY×Nat))×((((Nat→HS→Prop)×(List (Nat×List Nat)))×List Nat)×(Nat×(AV→AA→Prop)))→Prop:=fun t=>Wd t.1.1.1.1 t.1.1.1.2 t.1.1.2 t.1.2.1 t.1.2.2 t.2.1.1.1 t.2.1.1.2 t.2.1.2 t.2.2.1 t.2.2.2
def H9:=zE bA (((((fun _=>none),{}),Dy),((fun _=>0),0)),((((fun _ _=>True),[]),[]),(0,(fun _ _=>True))))
def N7:=H9.1.1.1.1
def lW:=H9.1.1.1.2
def Ew:=H9.1.1.2
def ED:=H9.1.2.1
def UB:=H9.1.2.2
def eX:=H9.2.1.1.1
def DO:=H9.2.1.1.2
def Rc:=H9.2.1.2
def GZ:=H9.2.2.1
def xY:=H9.2.2.2
set_option tactic.hygienic true in
theorem yP:Wd N7 lW Ew ED UB eX DO Rc GZ xY:=fun B R P X hm zm hJ q=>by
 have b6:Ew.marks.length=DO.length+1:=by rw[hm];simp
 refine AF.def (F:=(Ow w)) (names:=["self"]) B R rfl (fun Lf=>?_) (FG fun _=>rfl) rfl ∅
 ·have e1:=P.at_ .marks _ rfl;refine AJ (CM (Bg (Bl B (CW w) CV (Aa (BM B () P.iH (Sk w) RM (Ce e1 (by rw[AU,Em];exact ln zm rfl) (BB (HH (BO ?_)))))))));rw[AU,Em];refine Ba (decide_eq_false (!Am xh b6)) ?_;refine Ax ?_;have c1:N7 (ED .marks)=some (.list (DO.zipIdx.map (fun p=>AV.tup [.int p.1.1,.ref (ED (.mark p.2))])++[.tup [.int UB,.ref (ED (.mark DO.length))]])):=by
   rw[e1,hm,Nx,Cr];simp
  have a3:Al Ew ED (.mark DO.length)=some (.list (nats Rc)):=by
   show(Ew.marks[DO.length]?.map _)=_;rw[hm,Ik (A9 _),QR];rfl
  have hW:=P.at_ _ _ a3;have fW:A6 Ew ED (ED (.mark DO.length)):=⟨_,by rw[a3];simp,rfl⟩;generalize c3:ED (.mark DO.length)=W at*;refine AJ (BR (CY FO Fl (BM B () P.iH (Sk w) RM ⟨rfl,c1,AC.nil (FJ c1 (by rw[AU,Em];exact ln (AK (Ct (Ac b6.symm)) zm) rfl) ?_)⟩)));have b7:∀t,t≠Slot.marks→∀y,Al {Ew with marks:=DO} ED t=some y→Al Ew ED t=some y:=by
   intro t ht y hy;refine Yr hy ht fun j e0 hy=>?_;change(DO[j]?.map _)=_ at hy;show(Ew.marks[j]?.map _)=_;rw[hm];cases hq:DO[j]? with
   |none=>rw[hq]at hy;cases hy
   |some v=>rw[El (BX.mp hq).1,hq];rw[hq]at hy;exact hy
  have P1:=P.upd (c':={Ew with marks:=DO}) .marks (x:=.list (DO.zipIdx.map fun p=>AV.tup [.int p.1.1,.ref (ED (.mark p.2))])) (by first|exact Ag _|(show some _=some _;simp)) (by first|exact Ag _|(show some _=some _;simp)) b7
  have F1:=P.updFm (c':={Ew with marks:=DO}) .marks (x:=.list (DO.zipIdx.map fun p=>AV.tup [.int p.1.1,.ref (ED (.mark p.2))])) (by first|exact Ag _|(show some _=some _;simp)) fun t ht=>by
   by_cases e:t=.marks
   ·rw[e];exact Ag _
   ·refine AX (Ee.mp ht) fun y hy=>?_;rw[b7 t e y hy];simp
  have d2:Internal.upd N7 (ED .marks) (.list (DO.zipIdx.map fun p=>AV.tup [.int p.1.1,.ref (ED (.mark p.2))])) W=some (.list (nats Rc)):=by
   rw[Av _ _ (fun e=>by have:=P.inj _ .marks (by rw[a3];simp) (by first|exact Ag _|(show some _=some _;simp)) (c3.trans e);exact nomatch this)];exact hW
  generalize Internal.upd N7 (ED .marks) (.list (DO.zipIdx.map fun p=>AV.tup [.int p.1.1,.ref (ED (.mark p.2))]))=σ1 at*;have d3:¬A6 {Ew with marks:=DO} ED W:=by
   rintro⟨s,hs,e⟩;have hs0:Al Ew ED s≠none∧s≠.mark DO.length:=by
    by_cases b5:s=.marks
    ·rw[b5];exact⟨!Ag _,by simp⟩
    cases s<;>first|exact⟨hs,by simp⟩|exact absurd rfl b5|skip
    rename_i j;change(DO[j]?.map _)≠none at hs;obtain⟨v,hv⟩:∃v,DO[j]? =some v:=by
     cases hq:DO[j]? with
     |none=>rw[hq]at hs;exact absurd rfl hs
     |some v=>exact⟨v,rfl⟩
    have hj:=(BX.mp hv).1;refine⟨?_,by simp;exact Bm hj⟩;show(Ew.marks[j]?.map _)≠none;rw[hm,El hj,hv];simp
   exact hs0.2 (P.inj s _ hs0.1 (by rw[a3];simp) (e.trans c3.symm))
  refine Ex R.handled (.tup _) rfl (BY (A2 (BY (A2 (Da ?_)))));refine AJ (BR (CE (BM B () P1.iH (z7 w) cY (BB (Jd (Pm B (AG () ?_)))))));refine⟨_,_,_,_,_,11,rfl,P1.iH,Z7 w,.inr ⟨rfl,by rw[cY];simp⟩,!ld rfl,?_⟩;rw[mc (c:={Ew with marks:=DO})];refine Cz P1 .hdx (c':={Ew with marks:=DO,backs:=Ew.backs+1}) rfl fun e2 P2 F2 _=>?_;have c5:=F1.trans F2;refine AL (F2.out d2 d3) fun d4 c6=>?_;refine AJ (LS (fun GZ ρ' σ'=>∃c' L',eX GZ c'∧ρ' "self"=some (.ref (L' .hp))∧ρ' "many"=some (.int UB)∧ρ' "waiting"=some (.ref W)∧AS σ' L' c'∧Fm N7 Ew ED σ' c' L'∧σ' W=some (.list (nats Rc))∧¬A6 c' L' W) GZ ⟨_,ED,hJ,by rfl,by rfl,by rfl,P2,c5,d4,c6⟩ ?_);rintro GZ ρ' σ' ⟨c',L',b2,r1,r2,r3,P',F',a4,a6⟩;refine AL (X.len GZ c' b2) fun b1 hz=>?_;have e4:=P'.at_ .changes _ rfl;refine Bg (Bl B (CW w) CV (Aa (BM B r1 P'.iH (Iu w) JE (Ce e4 (by rw[AU,Em];exact ln hz rfl) (AG r2 (KQ (BO ?_)))))));rw[AU,Em];cases GZ with
  |zero=>
   refine Ba (decide_eq_false (!Am Zad b1)) ?_;refine AJ (BR (AG r3 (Pm B (AG r1 ?_))));refine⟨_,_,_,_,_,11,rfl,P'.iH,aH w,.inr ⟨rfl,by rw[M3];simp⟩,!ld rfl,?_⟩;exact P'.wait a4 a6 F' (.inl fW) (Ψ:=fun σ'=>EX _ _ _ _ σ' _) fun a8 P3 F3=>Ax (q c' _ a8 b2 P3 F3)
  |succ GZ=>
   refine CN (decide_eq_true (!BS yv b1)) ?_;refine AI (X.step GZ c' b2) fun c2 hU b0=>?_;have a9:∀{chs ch},c'.changes=chs++[ch]→σ' (L' .changes)=some (.list (chs.zipIdx.map (fun p=>FD L' p.2 p.1)++[FD L' chs.length ch])):=fun{chs ch} h=>by
    rw[e4,h,Nx,Cr];simp
   cases hU with
   |@known chs k hc hk b4=>
    have hl:=a9 hc;have a1:chs.length≤1000:=by rw[hc]at hz;simp at hz;exact ln hz rfl
    refine AJ (BR (CY FO Fl (BM B r1 P'.iH (Iu w) JE ⟨rfl,hl,AC.nil (FJ hl (by rw[AU,Em];exact ln a1 rfl) (A2 ?_))⟩)));refine P'.unlog hc (Ψ:=fun σ'=>EX _ _ _ _ σ' _) fun a8 P3 F3 _=>?_;refine AL (F3.out a4 a6) fun a7 a5=>?_;refine AJ (CM (Bg (CR (AG As (BB ⟨⟨_,_,.tup⟩,Fc (x:=.str "known") (!CX o1) () (!CX o2) (DB (Jc (BO ?_)))⟩)))));refine Ba (show(("known":Str)==("made":Str))=false by decide) ?_;refine AJ (CM (Bg (CR (AG As (BB ⟨⟨_,_,.tup⟩,Fc (x:=.str "known") (!CX o1) () (!CX o2) (DB (Jc (BO ?_)))⟩)))));refine CN (show(("known":Str)==("known":Str))=true by decide) ?_;have ek:=P3.at_ .known _ rfl;have d1:=SB (c:=c') k;refine AJ (gk (BM B (by rw[AN ⋯];exact r1) P3.iH (SG w) R3 (CR (AG As (BB ⟨⟨_,_,.tup⟩,Fc (x:=Bw k.key) (!CX Y2) () (!CX cZ)
     (Zcf (R.deeper _ |>.mono (!ld rfl):Ah _ 1).u1 ek (by rw[AU];show c'.known.length≤_;exact ln b4 rfl) (by rw[d1];simpa using hk) ?_)⟩)))))
    rw[am Nd.key (fun i=>AV.int (i:Nat)) (fun _ _=>La)];refine Cz P3 .known (c':={c' with changes:=chs,known:=BP c'.known k}) (by first|exact Ag _|(show some _=some _;simp)) fun b3 P4 F4 _=>?_
    refine AL (F4.out a7 a5) fun a2 a0=>?_;exact Ax (Ax (Ax ⟨GZ,!A9 _,_,L',b0,by rw[AN ⋯];exact r1,by rw[AN ⋯];exact r2,by rw[AN ⋯];exact r3,P4,F'.trans (F3.trans F4),a2,a0⟩))
   |@loose chs k mm es e hc he b4=>
    have hl:=a9 hc;have a1:chs.length≤1000:=by rw[hc]at hz;simp at hz;exact ln hz rfl
    refine AJ (BR (CY FO Fl (BM B r1 P'.iH (Iu w) JE ⟨rfl,hl,AC.nil (FJ hl (by rw[AU,Em];exact ln a1 rfl) (A2 ?_))⟩)));refine P'.unlog hc (Ψ:=fun σ'=>EX _ _ _ _ σ' _) fun a8 P3 F3 _=>?_;refine AL (F3.out a4 a6) fun a7 a5=>?_;refine AJ (CM (Bg (CR (AG As (BB ⟨⟨_,_,.tup⟩,Fc (x:=.str "edge") (!CX o1) () (!CX o2) (DB (Jc (BO ?_)))⟩)))));refine Ba (show(("edge":Str)==("made":Str))=false by decide) ?_;refine AJ (CM (Bg (CR (AG As (BB ⟨⟨_,_,.tup⟩,Fc (x:=.str "edge") (!CX o1) () (!CX o2) (DB (Jc (BO ?_)))⟩)))));refine Ba (show(("edge":Str)==("known":Str))=false by decide) ?_;refine AJ (Be (Bq B (by rw[AN ⋯];exact r1) P3.iH () (bL w) (Se w) (Aa (AG As (xv B (R.up rfl) P3 he (!b4) fun b3 P4 F4=>?_)))));refine AL (F4.out a7 a5) fun a2 a0=>?_;exact Ax (Ax (Ax ⟨GZ,!A9 _,_,L',b0,by rw[AN ⋯];exact r1,by rw[AN ⋯];exact r2,by rw[AN ⋯];exact r3,P4,F'.trans (F3.trans F4),a2,a0⟩))
   |@edge chs es e fs f d6 k mm g l1 l2 us lk hc O=>
    have hl:=a9 hc;have a1:chs.length≤1000:=by rw[hc]at hz;simp at hz;exact ln hz rfl
    refine AJ (BR (CY FO Fl (BM B r1 P'.iH (Iu w) JE ⟨rfl,hl,AC.nil (FJ hl (by rw[AU,Em];exact ln a1 rfl) (A2 ?_))⟩)));refine P'.unlog hc (Ψ:=fun σ'=>EX _ _ _ _ σ' _) fun a8 P3 F3 d5=>?_;refine BN (d5 _ _ _ _ rfl) fun c8 c9 c4=>?_;refine AL (F3.out a4 a6) fun a7 a5=>?_;refine AJ (CM (Bg (CR (AG As (BB ⟨⟨_,_,.tup⟩,Fc (x:=.str "edge") (!CX o1) () (!CX o2) (DB (Jc (BO ?_)))⟩)))));refine Ba (show(("edge":Str)==("made":Str))=false by decide) ?_;refine AJ (CM (Bg (CR (AG As (BB ⟨⟨_,_,.tup⟩,Fc (x:=.str "edge") (!CX o1) () (!CX o2) (DB (Jc (BO ?_)))⟩)))));refine Ba (show(("edge":Str)==("known":Str))=false by decide) ?_;refine AJ (Be (Bq B (by rw[AN ⋯];exact r1) P3.iH () (bL w) (Se w) (Aa (AG As (ye B (R.up rfl) P3 ⟨O.he,O.hf,O.hm,O.hk,O.hg,O.h1,O.h2,⟨O.O.len,O.O.sz,O.O.m⟩,O.sz,O.ek,O.eg,O.zk,O.z1,O.z2,O.z3⟩ c8 c4 F3 (.inl c9) fun L4 b3 P4 F4=>?_)))));refine AL (F4.out a4 a6) fun a2 a0=>?_;exact Ax (Ax (Ax ⟨GZ,!A9 _,_,L4,b0,by rw[AN ⋯,F4.root];exact r1,by rw[AN ⋯];exact r2,by rw[AN ⋯];exact r3,P4,F'.trans F4,a2,a0⟩))
   |@made chs n nd ns ab ls hc O=>
    have hl:=a9 hc;have a1:chs.length≤1000:=by rw[hc]at hz;simp at hz;exact ln hz rfl
    refine AJ (BR (CY FO Fl (BM B r1 P'.iH (Iu w) JE ⟨rfl,hl,AC.nil (FJ hl (by rw[AU,Em];exact ln a1 rfl) (A2 ?_))⟩)));refine P'.unlog hc (Ψ:=fun σ'=>EX _ _ _ _ σ' _) fun a8 P3 F3 _=>?_;refine AL (F3.out a4 a6) fun a7 a5=>?_;refine AJ (CM (Bg (CR (AG As (BB ⟨⟨_,_,.tup⟩,Fc (x:=.str "made") (!CX o1) () (!CX o2) (DB (Jc (BO ?_)))⟩)))));refine CN (show(("made":Str)==("made":Str))=true by decide) ?_;refine AJ (Be (Bq B (by rw[AN ⋯];exact r1) P3.iH () (qt w) (xF w) (Aa (CR (AG As (BB ⟨⟨_,_,.tup⟩,Fc (x:=.int n) (!CX Y2) () (!CX cZ)
     (zf B (R.deeper _) P3 ⟨O.nodes,O.nn,O.uab,O.nu,O.lots,O.nl,O.U,⟨O.B.n,O.B.w,O.B.d,O.B.m⟩,O.kl,O.kn,O.num,O.us,O.abn,O.za⟩ fun b3 P4 F4=>?_)⟩))))))
    refine AL (F4.out a7 a5) fun a2 a0=>?_;exact Ax (Ax ⟨GZ,!A9 _,_,L',b0,by rw[AN ⋯];exact r1,by rw[AN ⋯];exact r2,by rw[AN ⋯];exact r3,P4,F'.trans (F3.trans F4),a2,a0⟩)
theorem Vb{σ A c L many J ms n m Φ}:Wd σ A c L many J ms n m Φ:=@zF _ bA _ @yP ((((σ,A),c),(L,many)),(((J,ms),n),(m,Φ)))
variable {σ0:AA}
structure B0(σ0 σ:AA)(l:List (AB×AO)):Prop where
 at_:∀p∈l,σ p.1=some p.2
 nd:(l.map (·.1)).Nodup
 fr:∀p∈l,σ0 p.1=none
 ext:Ap σ0 σ
theorem B0.nil(σ:AA):B0 σ σ []:=⟨by simp,by simp,by simp,.refl _⟩
variable {l l1 l2:List (AB×AO)} {x y:AO} {a D:AB}
theorem B0.new(O:B0 σ0 σ l)(n:σ D=none):B0 σ0 (upd σ D x) ((D,x)::l):=by
 refine⟨fun p hp=>?_,?_,fun p hp=>?_,O.ext.trans (.new n)⟩
 ·rcases A7.mp hp with rfl|hp
  ·exact Ao _ _ _
  ·rw[Av _ _ (fun e=>by have:=O.at_ p hp;rw[e,n]at this;exact Au this)];exact O.at_ p hp
 ·rw[CB,FM];refine⟨fun h=>?_,O.nd⟩;refine AI (BD.mp h) fun p hp e=>?_;have:=O.at_ p hp;rw[e,n]at this;exact Au this
 ·rcases A7.mp hp with rfl|hp
  ·cases q:σ0 D with
   |none=>rfl
   |some v=>have:=O.ext D (by rw[q];exact Ag _);rw[n,q]at this;exact Au this
  ·exact O.fr p hp
theorem B0.set(O:B0 σ0 σ (l1++(a,x)::l2)):B0 σ0 (upd σ a y) ((a,y)::(l1++l2)):=by
 have nd:=O.nd;rw[Cr,CB]at nd;have m:=(List.perm_middle.nodup_iff).mp nd;rw[FM]at m;refine⟨fun p hp=>?_,?_,fun p hp=>?_,fun b hb=>?_⟩
 ·rcases A7.mp hp with rfl|hp
  ·exact Ao _ _ _
  ·rw[Av _ _ (fun e=>m.1 (by rw[←e,←Cr];exact BD.mpr ⟨p,hp,rfl⟩))];exact O.at_ p (by simp only[B9,A7]at hp ⊢;rcases hp with h|h<;>simp[h])
 ·rw[CB,Cr,FM];exact m
 ·rcases A7.mp hp with rfl|hp
  ·exact O.fr (a,x) (by simp)
  ·exact O.fr p (by simp only[B9,A7]at hp ⊢;rcases hp with h|h<;>simp[h])
 ·rw[Av _ _ (fun e=>hb (by rw[e];exact O.fr (a,x) (by simp)))];exact O.ext b hb
theorem B0.get(O:B0 σ0 σ l)(h:(a,x)∈l):σ a=some x:=O.at_ (a,x) h
theorem NC{m:Str}{p1 p2:A8}{n:Nat}{C dx xx:AB}{fs:Str→Option AV}{av:AV}{Φ:AW→AA→Prop}(B:Ai)(O:B0 σ0 σ (l1++(dx,.ns n fs)::l2))(hx:(xx,AO.inst C dx)∈l1++l2)(hs:ρ "self"=some (.ref xx))(ok:DE w C m)(hn:n≤100)
  (q:∀σ',B0 σ0 σ' ((dx,.ns (n+1) fun y=>if y=m then some av else fs y)::(l1++l2))→Φ ρ σ')(k0:autoParam (Cf (env.kindOf "self")=true) aR)(k1:autoParam (env.scope.kind=.function) aR):
  AP A env (Fh (.Attribute (.Name "self" p1) m p2) env) av ρ σ Φ:=
 Pm B (AG hs ⟨xx,C,dx,n,fs,n+1,rfl,⟨O.get (by simp only[B9,A7]at hx ⊢;rcases hx with h|h<;>simp[h]),O.get (by simp)⟩,ok,.inl rfl,hn,q _ O.set⟩ k0 k1)
theorem OX.list{m:Str}{p1 p2 p3 a0:A8}{n:Nat}{C dx xx:AB}{fs:Str→Option AV}{Φ:CK→AW→AA→Prop}(B:Ai)(O:B0 σ0 σ ((dx,.ns n fs)::l))(hx:(xx,AO.inst C dx)∈l)(hs:ρ "self"=some (.ref xx))(ok:DE w C m)(hn:n≤100)
  (q:∀D σ',B0 σ0 σ' ((dx,.ns (n+1) fun y=>if y=m then some (.ref D)else fs y)::(D,.list [])::l)→Φ .next ρ σ')(k0:autoParam (Cf (env.kindOf "self")=true) aR)(k1:autoParam (env.scope.kind=.function) aR):
  Eg A env (.Assign [.Attribute (.Name "self" p1) m p2] (.List [] p3) a0) ρ σ Φ:=
 BR (DU (AC.nil ⟨!Bc _,fun D nD nb=>NC (l1:=[(D,.list [])]) B (O.new nD) (by simp[hx]) hs ok hn (fun σ' O'=>q D σ' O') k0 k1⟩))
theorem OX.dict{m:Str}{p1 p2 p3 a0:A8}{n:Nat}{C dx xx:AB}{fs:Str→Option AV}{Φ:CK→AW→AA→Prop}(z:AO)(hz:∀h a,h.get? a=some {cls:=.type "dict",data:=.dict #[]}→Eb w h a z)(B:Ai)(O:B0 σ0 σ ((dx,.ns n fs)::l))(hx:(xx,AO.inst C dx)∈l)(hs:ρ "self"=some (.ref xx))(ok:DE w C m)(hn:n≤100)
  (q:∀D σ',D≠1→B0 σ0 σ' ((dx,.ns (n+1) fun y=>if y=m then some (.ref D)else fs y)::(D,z)::l)→Φ .next ρ σ')(k0:autoParam (Cf (env.kindOf "self")=true) aR)(k1:autoParam (env.scope.kind=.function) aR):
  Eg A env (.Assign [.Attribute (.Name "self" p1) m p2] (.Dict [] [] p3) a0) ρ σ Φ:=
 BR (S5 B hz fun D nD nb n1=>NC (l1:=[(D,z)]) B (O.new nD) (by simp[hx]) hs ok hn (fun σ' O'=>q D σ' n1 O') k0 k1)
theorem OX.int{m:Str}{p1 p2 p3 a0:A8}{n k:Nat}{i:Int}{C dx xx:AB}{fs:Str→Option AV}{Φ:CK→AW→AA→Prop}(B:Ai)(O:B0 σ0 σ ((dx,.ns n fs)::l))(hx:(xx,AO.inst C dx)∈l)(hs:ρ "self"=some (.ref xx))(ok:DE w C m)(hn:n≤100)
  (q:∀σ',B0 σ0 σ' ((dx,.ns (n+1) fun y=>if y=m then some (.int i)else fs y)::l)→Φ .next ρ σ')(k0:autoParam (Cf (env.kindOf "self")=true) aR)(k1:autoParam (env.scope.kind=.function) aR):
  Eg A env (.Assign [.Attribute (.Name "self" p1) m p2] (.Constant (.int i) k p3) a0) ρ σ Φ:=
 BR (BB (NC (l1:=[]) B O (by simpa using hx) hs ok hn (fun σ' O'=>q σ' O') k0 k1))
abbrev UW(N U W D:AB):Str→Option AV:=fun y=>if y=("depths":Str)then some (.ref D)else if y=("weights":Str)then some (.ref W)else if y=("numbers":Str)then some (.ref U)else if y=("nodes":Str)then some (.ref N)else none
theorem mK(B:Ai)(R:Ah A 1){dx x:AB}(O:B0 σ0 σ ((dx,.ns 0 fun zz=>none)::l))(m:(x,AO.inst 174 dx)∈l)
  (q:∀N U W D σ',U≠1→B0 σ0 σ' ((dx,.ns 4 (UW N U W D))::(D,.list [])::(W,.list [])::(U,.dictT [])::(N,.list [])::l)→Φ .none σ'):
  Du A (.ref 86) [.ref x] σ Φ:=by
 refine Du.def (F:=(oh w)) (names:=["self"]) B R rfl (fun Lf=>?_) (FG fun zz=>rfl) rfl ∅
 ·refine AJ (OX.list (xx:=x) B O m () (wg w) (!ld rfl) fun N a0 O1=>?_);refine AJ (OX.dict (.dictT []) (VB w) (xx:=x) B O1 (by simp[m]) () (Za3 w) (!ld rfl) fun U a1 n1 O2=>?_);refine AJ (OX.list (xx:=x) B O2 (by simp[m]) () (yp w) (!ld rfl) fun W a2 O3=>?_);refine AJ (OX.list (xx:=x) B O3 (by simp[m]) () (yO w) (!ld rfl) fun D n O4=>?_);exact Ax (q N U W D n n1 O4)
abbrev Tx(N U W:AB):Str→Option AV:=fun y=>if y=("merged":Str)then some (.ref W)else if y=("lots":Str)then some (.ref U)else if y=("above":Str)then some (.ref N)else none
theorem qp(B:Ai)(R:Ah A 1){dx x:AB}(O:B0 σ0 σ ((dx,.ns 0 fun zz=>none)::l))(m:(x,AO.inst 256 dx)∈l)
  (q:∀N U W σ',B0 σ0 σ' ((dx,.ns 3 (Tx N U W))::(W,.list [])::(U,.list [])::(N,.list [])::l)→Φ .none σ'):
  Du A (.ref 192) [.ref x] σ Φ:=by
 refine Du.def (F:=(ql w)) (names:=["self"]) B R rfl (fun Lf=>?_) (FG fun zz=>rfl) rfl ∅
 ·refine AJ (OX.list (xx:=x) B O m () (rj w) (!ld rfl) fun N a0 O1=>?_);refine AJ (OX.list (xx:=x) B O1 (by simp[m]) () (uv w) (!ld rfl) fun U a1 O2=>?_);refine AJ (OX.list (xx:=x) B O2 (by simp[m]) () (zY w) (!ld rfl) fun W n O3=>?_);exact Ax (q N U W n O3)
theorem uC(w:AD):Cj (KK w) Bh "Bank"=some (some (.ref 174)):=∅
theorem jz(w:AD):Cj (KK w) Bh "Unions"=some (some (.ref 256)):=∅
theorem rF(w:AD):Nb (KK w) (.ref 174)=true:=∅
theorem vE(w:AD):Nb (KK w) (.ref 256)=true:=∅
theorem oG(w:AD):Nb (KK w) (.ref 460)=true:=∅
theorem vr(w:AD):Nb (KK w) (.ref 517)=true:=∅
end
section
variable {σ σ' σ'' τ τ' σ0:AA} {A:Ab} {env:Af} {ρ:AW} {c c' c0:HS} {L L' L0:AY} {l l1 l2:List (AB×AO)} {x y:AO} {a D:AB}
theorem B0.perm(O:B0 σ0 σ l)(p:l.Perm n):B0 σ0 σ n:=
 ⟨fun q m=>O.at_ q (p.mem_iff.mpr m),((p.map _).nodup_iff).mp O.nd,fun q m=>O.fr q (p.mem_iff.mpr m),O.ext⟩
theorem B0.inst{C dx xx:AB}(O:B0 σ0 σ l)(m:σ xx=none)(n2:σ dx=none)(n:xx≠dx):B0 σ0 (upd (upd σ dx (.ns 0 fun zz=>none)) xx (.inst C dx)) ((dx,.ns 0 fun zz=>none)::(xx,.inst C dx)::l):=
 ((O.new n2).new (by rw[Av _ _ n];exact m)).perm (ix _ _ _)
abbrev Qb(n m N U W D:AB):List (AB×AO):=[(m,.ns 4 (UW N U W D)),(D,.list []),(W,.list []),(U,.dictT []),(N,.list []),(n,.inst 174 m)]
abbrev V3(n m N U W:AB):List (AB×AO):=[(m,.ns 3 (Tx N U W)),(W,.list []),(U,.list []),(N,.list []),(n,.inst 256 m)]
theorem Zbr(B:Ai)(R:Ah A 2)(O:B0 σ0 σ l)
  (q:∀n m N U W D σ',U≠1→B0 σ0 σ' (Qb n m N U W D++l)→Φ (.ref n) σ')(hx:autoParam (env.kindOf "Bank"=some .globalImplicit) aR)(hk:autoParam (env.scope.kind=.function) aR)(hg:autoParam (env.globals=Bh) aR):EV A env (.Call (.Name "Bank" p) [] [] a0) ρ σ Φ:=
 LW B (NM B (uC w) ⟨_,.cl (rF w),AC.nil (Sy B (wS w) R fun A' R' xx dx n1 zz n2 zz ne=>mK B R' (O.inst n1 n2 ne) (.head _) fun N U W D σ' h1 O'=>⟨rfl,q xx dx N U W D σ' h1 O'⟩)⟩ hx hk hg ⋯) ()
theorem Zb9(B:Ai)(R:Ah A 2)(O:B0 σ0 σ l)
  (q:∀n m N U W σ',B0 σ0 σ' (V3 n m N U W++l)→Φ (.ref n) σ')(hx:autoParam (env.kindOf "Unions"=some .globalImplicit) aR)(hk:autoParam (env.scope.kind=.function) aR)(hg:autoParam (env.globals=Bh) aR):EV A env (.Call (.Name "Unions" p) [] [] a0) ρ σ Φ:=
 LW B (NM B (jz w) ⟨_,.cl (vE w),AC.nil (Sy B (xc w) R fun A' R' xx dx n1 zz n2 zz ne=>qp B R' (O.inst n1 n2 ne) (.head _) fun N U W σ' O'=>⟨rfl,q xx dx N U W σ' O'⟩)⟩ hx hk hg ⋯) ()
abbrev hs0:HS:=⟨[],[],[],[],[],[],[],[],[],[],[],[],[],[],0,0⟩
theorem B0.rep(O:B0 σ0 σ l)(m:Slot→Nat)(h:∀s x,Al c L s=some x→l[m s]? =some (L s,x))(hi:∀s t,Al c L s≠none→Al c L t≠none→m s=m t→s=t)
  (n1:L .numbers≠1∧L .known≠1∧L .above≠1):AS σ L c:=by
 refine⟨fun s x e=>O.at_ (L s,x) (C6 (h s x e)),fun s t hs ht e=>?_,n1⟩;refine AX (Ee.mp hs) fun x hx=>?_;refine AX (Ee.mp ht) fun y hy=>?_;refine AX (BX.mp (h s x hx)) fun h1 e1=>?_;refine AX (BX.mp (h t y hy)) fun h2 e2=>?_;refine hi s t hs ht ?_;have nd:=QK.mp O.nd;have v1:(l.map (·.1))[m s]'(by simpa using h1)=L s:=by rw[List.getElem_map,e1]
 have n:(l.map (·.1))[m t]'(by simpa using h2)=L t:=by rw[List.getElem_map,e2]
 rcases Nat.lt_trichotomy (m s) (m t)with g|g|g
 ·exact absurd (v1.trans (e.trans n.symm)) (nd _ _ _ _ g)
 ·exact g
 ·exact absurd (n.trans (e.symm.trans v1.symm)) (nd _ _ _ _ g)
theorem nV(B:Ai)(R:Ah A 3){dx xx:AB}(O:B0 σ0 σ ((dx,.ns 0 fun zz=>none)::l))(hx:(xx,AO.inst 460 dx)∈l){Φ:AV→AA→Prop}
  (q:∀bk m bN bU bW bD un n uN uU uW ed fo kn ab wa σ',bU≠1→kn≠1→ab≠1→
   B0 σ0 σ' ((dx,.ns 8 fun y=>if y=("backs":Str)then some (.int 0)else if y=("waiting":Str)then some (.ref wa)else if y=("above":Str)then some (.ref ab)else if y=("known":Str)then some (.ref kn)else if y=("forest":Str)then some (.ref fo)else if y=("edges":Str)then some (.ref ed)else if y=("unions":Str)then some (.ref un)else if y=("bank":Str)then some (.ref bk)else none)::
    (wa,.list [])::(ab,.dictI [])::(kn,.dictT [])::(fo,.list [])::(ed,.list [])::(V3 un n uN uU uW++(Qb bk m bN bU bW bD++l)))→Φ .none σ'):
  Du A (.ref 274) [.ref xx] σ Φ:=by
 refine Du.def (F:=(zi w)) (names:=["self"]) B R rfl (fun Lf=>?_) (FG fun zz=>rfl) rfl ∅
 ·refine AJ (BR (Zbr B (R.deeper _) O fun bk m bN bU bW bD a3 h1 O1=>NC (xx:=xx) (l1:=Qb bk m bN bU bW bD) (l2:=l) B O1 (Ed _ hx) () (tA w) (!ld rfl) fun a8 O2=>?_));refine AJ (BR (Zb9 B (R.deeper _) O2 fun un n uN uU uW b0 O3=>NC (xx:=xx) (l1:=V3 un n uN uU uW) (l2:=Qb bk m bN bU bW bD++l) B O3 (Ed _ (Ed _ hx)) () (sD w) (!ld rfl) fun a9 O4=>?_));refine AJ (OX.list (xx:=xx) B O4 (Ed _ (Ed _ hx)) () (vB w) (!ld rfl) fun ed a5 O5=>?_);refine AJ (OX.list (xx:=xx) B O5 (.tail _ (Ed _ (Ed _ hx))) () (zR w) (!ld rfl) fun fo a6 O6=>?_);refine AJ (OX.dict (.dictT []) (VB w) (xx:=xx) B O6 (.tail _ (.tail _ (Ed _ (Ed _ hx)))) () (xr w) (!ld rfl) fun kn a7 h7 O7=>?_);refine AJ (OX.dict (.dictI []) (Vu w) (xx:=xx) B O7 (.tail _ (.tail _ (.tail _ (Ed _ (Ed _ hx))))) () (oZ w) (!ld rfl) fun ab a2 h8 O8=>?_);refine AJ (OX.list (xx:=xx) B O8 (.tail _ (.tail _ (.tail _ (.tail _ (Ed _ (Ed _ hx)))))) () (aH w) (!ld rfl) fun wa a4 O9=>?_);refine AJ (OX.int (xx:=xx) B O9 (.tail _ (.tail _ (.tail _ (.tail _ (.tail _ (Ed _ (Ed _ hx))))))) () (Z7 w) (!ld rfl) fun a0 a1=>?_);exact Ax (q bk m bN bU bW bD un n uN uU uW ed fo kn ab wa a0 h1 h7 h8 a1)
theorem B0.finish(O:B0 σ0 σ l)(m:Slot→Nat)(h:∀s x,Al c L s=some x→l[m s]? =some (L s,x))(hi:∀s t,Al c L s≠none→Al c L t≠none→m s=m t→s=t)
  (n1:L .numbers≠1∧L .known≠1∧L .above≠1){X:Prop}(q:AS σ L c→(∀a,A6 c L a→σ0 a=none)→X):X:=
 q (O.rep m h hi n1) fun a n=>AI n fun s hs e=>by
  refine AX (Ee.mp hs) fun z hz=>?_;rw[←e];exact O.fr (L s,z) (C6 (h s z hz))
theorem kj{y:Str}:DM hs0 L y=if y=("made":Str)then some (.int 0)else if y=("marks":Str)then some (.ref (L .marks))else if y=("changes":Str)then some (.ref (L .changes))else if y=("backs":Str)then some (.int 0)else if y=("waiting":Str)then some (.ref (L .waiting))else if y=("above":Str)then some (.ref (L .above))else if y=("known":Str)then some (.ref (L .known))else if y=("forest":Str)then some (.ref (L .forest))else if y=("edges":Str)then some (.ref (L .edges))else if y=("unions":Str)then some (.ref (L .un))else if y=("bank":Str)then some (.ref (L .bk))else none:=Vw (l:=hP hs0 L) (show hN.Nodup by decide+kernel)
theorem wi{y:Str}:G7 L y=UW (L .nodes) (L .numbers) (L .wts) (L .dps) y:=Vw (l:=[("nodes",.ref (L .nodes)),("numbers",.ref (L .numbers)),("weights",.ref (L .wts)),("depths",.ref (L .dps))]) (show(["nodes","numbers","weights","depths"]:List Str).Nodup by decide+kernel)
theorem po{y:Str}:JS L y=Tx (L .uab) (L .ulots) (L .merged) y:=Vw (l:=[("above",.ref (L .uab)),("lots",.ref (L .ulots)),("merged",.ref (L .merged))]) (show(["above","lots","merged"]:List Str).Nodup by decide+kernel)
theorem y0(B:Ai)(R:Ah A 5)(q:∀L σ',Ap σ σ'→AS σ' L hs0→(∀a,A6 hs0 L a→σ a=none)→Φ (.ref (L .hp)) σ'):AF A (.ref 460) [] σ Φ:=by
 refine Sy B (zg w) R fun A' R' xx dx n1 zz n2 zz ne=>?_;have O:=(B0.nil σ).inst (C:=460) n1 n2 ne;have I0:Dm (upd (upd σ dx (.ns 0 fun zz=>none)) xx (.inst 460 dx)) xx 460 dx 0 (fun zz=>none):=⟨O.get (by simp),O.get (!Dg)⟩;refine XC (F:=(Zd w)) (names:=["self"]) B R' rfl (fun Lf=>?_) (FG fun zz=>rfl) rfl ∅
 ·refine Cm.cons (gb (V0 B (Zd w) (yN w) (rh w) () () () () () () () () I0
     (AC.nil ?_) () ()))
  refine nV (xx:=xx) B (R'.deeper _) O (!Dg) fun bk m bN bU bW bD un a0 uN uU uW ed fo kn ab wa a4 h1 h2 h3 O1=>?_;refine Cm.cons (.of (OX.list (xx:=xx) B O1 (by simp) () (nY w) (!ld rfl) fun ch a5 O2=>?_));refine Cm.cons (.of (OX.list (xx:=xx) B O2 (by simp) () (wu w) (!ld rfl) fun mk a6 O3=>?_));refine Cm.cons (.of (OX.int (xx:=xx) B O3 (by simp) () (Vk w) (!ld rfl) fun a3 O4=>?_));refine Cm.of (Ax ⟨rfl,?_⟩);let L:AY:=fun s=>match s with
   |.hp=>xx|.hdx=>dx|.bk=>bk|.bdx=>m|.un=>un|.udx=>a0|.nodes=>bN|.numbers=>bU|.wts=>bW|.dps=>bD|.uab=>uN|.ulots=>uU|.merged=>uW
   |.edges=>ed|.forest=>fo|.known=>kn|.above=>ab|.waiting=>wa|.changes=>ch|.marks=>mk|_=>0
  let a1:Slot→Nat:=fun s=>match s with
   |.hdx=>0|.marks=>1|.changes=>2|.waiting=>3|.above=>4|.known=>5|.forest=>6|.edges=>7|.udx=>8|.merged=>9|.ulots=>10|.uab=>11|.un=>12|.bdx=>13|.dps=>14|.wts=>15|.numbers=>16|.nodes=>17|.bk=>18|.hp=>19|_=>20
  refine O4.finish (L:=L) a1 (fun s x e=>?_) (fun s t hs ht e=>?_) ⟨h1,h2,h3⟩ fun P fr=>q L a3 O4.ext P fr
  ·cases s<;>first|(cases e;rfl)|(exfalso;change none=some x at e;cases e)|skip
   ·rw[←An e];refine congrArg (fun f=>some (dx,AO.ns 11 f)) (funext fun y=>?_);exact(kj (L:=L)).symm
   ·rw[←An e];refine congrArg (fun f=>some (m,AO.ns 4 f)) (funext fun y=>?_);exact(wi (L:=L)).symm
   ·rw[←An e];refine congrArg (fun f=>some (a0,AO.ns 3 f)) (funext fun y=>?_);exact(po (L:=L)).symm
  ·let a2:Nat→Slot:=fun n=>([.hdx,.marks,.changes,.waiting,.above,.known,.forest,.edges,.udx,.merged,.ulots,.uab,.un,.bdx,.dps,.wts,.numbers,.nodes,.bk]:List Slot)[n]?.getD .hp;have key:∀s,Al hs0 L s≠none→a2 (a1 s)=s:=fun s hs=>by cases s<;>first|rfl|exact absurd rfl hs
   exact(key s hs).symm.trans ((congrArg a2 e).trans (key t ht))
end
section
abbrev J0:List Value:=[.type "Exception",.type "BaseException",.type "object"]
theorem MM(w:AD):∃nm q bs m sn sub ab n dd k0 k1 k2 k3 k5,(KK w).lookup 47=some (excClassObj nm q 47 46 bs J0 m sn sub ab n dd k0 k1 k2 k3 k5 "Exception.__new__"):=⟨_,_,_,_,_,_,_,_,_,_,_,_,_,_,rfl⟩
theorem uw(w:AD):Pz (KK w) (.ref 47) "__init__"=some (some (.ref 37)):=∅
theorem zJ(w:AD):typeIn (KK w) (.ref 37)=some (.type "function"):=∅
section
variable {A:Ab} {R:Jn→AQ→Prop} {h:A3} {g:Array Gp} {d:Io} {t:Nat} {os:Gm}
abbrev Dt(a:AB):C0:={cls:=.ref 47,data:=.fields #[.ref a,.none,.none,.none,.bool false,.none]}
abbrev J2(vs:List Value):C0:={cls:=.type "tuple",data:=.seq vs.toArray}
def UH(A:Ab)(R:Jn→AQ→Prop)(h:A3)(g:Array Gp)(d:Io)(t:Nat)(os:Gm)(n:Nat)(v:Value):Prop:=∀(X:(KK w).In h)(Rm:Ah A (n+1))(k:∀m,Ah m n→FA (Ae pg w) m (.call (.ref 37) ⟨[.ref (h.objs.size+1),v],[]⟩) (InitBack (h.objs.size+1) R) ⟨(h.push (J2 [v])).push (Dt h.objs.size),g,d,t,os⟩),FA (Ae pg w) A (.call (.ref 47) ⟨[v],[]⟩) R ⟨h,g,d,t,os⟩
def bK:(((Ab×(Jn→AQ→Prop))×A3)×(Array Gp×Io))×((Nat×Gm)×(Nat×Value))→Prop:=fun t=>UH t.1.1.1.1 t.1.1.1.2 t.1.1.2 t.1.2.1 t.1.2.2 t.2.1.1 t.2.1.2 t.2.2.1 t.2.2.2
def JV:=zE bK (((({},(fun _ _=>True)),Bk),(#[],{})),((0,Bk),(0,Bk)))
def t6:=JV.1.1.1.1
def u6:=JV.1.1.1.2
def HE:=JV.1.1.2
def Up:=JV.1.2.1
def U8:=JV.1.2.2
def UD:=JV.2.1.1
def Vh:=JV.2.1.2
def qr:=JV.2.2.1
def MX:=JV.2.2.2
theorem tB:UH t6 u6 HE Up U8 UD Vh qr MX:=fun X Rm k=>by
 refine M8 (MM w) fun nm q bs a4 sn sub ab a5 dd k0 k1 k2 k3 k5 a2=>?_;have n:=X _ _ a2;have F:=Ze7;have f1:=tc_lookup;have f2:=tc_bind (.ref 47);have hT:(⟨HE,Up,U8,UD,Vh⟩:AQ).TypeIs (.ref 47) "type":=⟨_,n,rfl⟩;refine Ti ?_;show AR _ _ (callAny (.ref 47) _) _ _ _
 repeat (any_goals (first|assumption|with_reducible refine Nz n ?_|wp_step))
 refine⟨rfl,?_⟩;refine codeAny_call_builtin_at (X8 _ (by decide+kernel)) entry_typeCall (wpAny_check_type_call_sub n ?_)
 repeat (first|with_reducible refine Nz n ?_|with_reducible refine wpAny_madeBy_exc n ?_|wp_step)
 refine codeAny_call_builtin_code (X8 _ F.quiet) (wpAny_check_new_sub F n ?_);refine codeAny_exc_new_sub F n ?_ (by rw[CG];exact Cu _);show AR _ _ _ _ _ _;have a1:=BC (Dt HE.objs.size) (BC (J2 [MX]) n);have a0:(KK w).In ((HE.push (J2 [MX])).push (Dt HE.objs.size)):=fun a o e=>BC _ (BC _ (X a o e));have m:((HE.push (J2 [MX])).push (Dt HE.objs.size)).get? (HE.objs.size+1)=some (Dt HE.objs.size):=by heap_get
 have a3:(Fi 47::J0).contains (.ref 47)=true:=by exact rfl
 unfold Tk
 repeat (first|with_reducible refine Nz m ?_|wp_step)
 show AR _ _ (isSubtype (.ref 47) (.ref 47)) _ _ ⟨(HE.push (J2 [MX])).push (Dt HE.objs.size),Up,U8,UD,Vh⟩;refine wpAny_isSubtype_exc a1 ?_;rw[a3]
 repeat (first|with_reducible refine Nz m ?_|wp_step)
 show AR _ _ (No (.ref 47) _) _ _ _;refine ij a0 (uw w) _ _ _ _ (fun zz zz e=>e) ?_;refine CF (AE (bind_fn a0 _ (zJ w) _ _ _ _ (fun zz zz e=>e) ?_));show AR _ _ (call (.ref 37) [.ref (HE.objs.size+1),MX]>>=fun x=>Pure.pure (some x)) _ _ _;refine AE (KW (Nq (k _ Rm.make) fun r s' hr=>?_));cases r with
 |error e=>exact hr
 |ok fl=>
  cases fl with
  |ret u=>
   obtain⟨rfl,hr⟩:=hr;exact Ad (Ad hr)
  |_=>exact hr.elim
theorem qw{A R h g d t os n v}:UH A R h g d t os n v:=@zF _ bK _ @tB ((((A,R),h),(g,d)),((t,os),(n,v)))
end
theorem eO:No (.type "wrapper_descriptor") "__get__"=pure (some (.builtin "wrapper_descriptor.__get__")):=by rw[YA,YB];kernel_rfl
theorem qb:Nr "wrapper_descriptor" "__get__" "wrapper_descriptor.__get__":=.of (owner:="wrapper_descriptor") (n:="__get__") eO (by decide+kernel) (by decide+kernel) (by decide+kernel)
 (by first|exact .inl (by decide+kernel)|exact .inr (by decide+kernel)) (by rw[YC];kernel_rfl)
theorem kr:entryFor table "wrapper_descriptor.__get__"=some Builtin.«wrapper_descriptor.__get__»:=entryFor_of_tree ∅
theorem Zaa(a b c:Value):QN "wrapper_descriptor.__get__" ⟨[a,b,c],[]⟩:=by unfold QN;kernel_rfl
theorem eE:Nc (.builtin "Exception.__init__")=pure (.type "wrapper_descriptor"):=∅
end
section
section
variable {M:Model} {A:Ab} {E:Value→AQ→Prop} {h:A3} {g:Array Gp} {d:Io} {t:Nat} {os:Gm} {x:AB} {ox:C0} {odx:Option C0}
theorem yd(w:AD):mroIn (KK w) 47 (.type "Exception")=some true:=∅
theorem Za1(X:(KK w).In h)(hx:h.get? x=some ox)(hc:ox.cls=.ref 47)
  (m:Q (.done (.ret (.ref h.objs.size))) ⟨h.push {cls:=.type "method-wrapper",data:=.fields #[.builtin "Exception.__init__",.ref x]},g,d,t,os⟩):
  AR (Ae pg w) A (Builtin.«wrapper_descriptor.__get__» ⟨[.builtin "Exception.__init__",.ref x,.ref 47],[]⟩) Q E ⟨h,g,d,t,os⟩:=by
 unfold Builtin.«wrapper_descriptor.__get__»
 repeat wp_step
 rw[show ".".intercalate ("Exception.__init__".cutAt '.').dropLast="Exception" by decide+kernel,hc];refine Xx X (yd w) _ _ _ _ (fun n n e=>e) ?_
 repeat wp_step
 exact m
theorem vc:builtinKind "wrapper_descriptor.__get__"=some .slot:=by decide+kernel
theorem mG:splitId "wrapper_descriptor.__get__"=some ("wrapper_descriptor","__get__"):=by decide+kernel
def VO(A:Ab)(E:Value→AQ→Prop)(h:A3)(g:Array Gp)(d:Io)(t:Nat)(os:Gm)(x:AB)(ox:C0)(m:AB)(l₀:List Value)(l:List Value)(Q:PySem.Fin→AQ→Prop)(tk:Tok):Prop:=∀(a0:h.get? m=some {cls:=.type "super",dict:=none,data:=.fields #[.ref 47,.ref x,.ref 47],slots:=#[]})(a1:Kd (Ae pg w) h (opaqueClassAbove (.ref 47)) none)(hC:Kd (Ae pg w) h (mroOf (.ref 47)) l₀)(hl:(l₀.dropWhile (· != .ref 47)).drop 1=l)(X:(KK w).In h)(hf:alongIn (KK w) "__init__" l=some (some (.builtin "Exception.__init__")))(hx:h.get? x=some ox)(hc:ox.cls=.ref 47)(n:x≠47)(hq:Q (.done (.ret (.ref h.objs.size))) ⟨h.push {cls:=.type "method-wrapper",data:=.fields #[.builtin "Exception.__init__",.ref x]},g,d,t,os⟩),AR (Ae pg w) A (Builtin.«super.__getattribute__» ⟨[.ref m,.str "__init__" tk],[]⟩) Q E ⟨h,g,d,t,os⟩
def Yg:(((Ab×(Value→AQ→Prop))×(A3×Array Gp))×((Io×Nat)×Gm))×(((AB×C0)×(AB×List Value))×((List Value×(PySem.Fin→AQ→Prop))×Tok))→Prop:=fun t=>VO t.1.1.1.1 t.1.1.1.2 t.1.1.2.1 t.1.1.2.2 t.1.2.1.1 t.1.2.1.2 t.1.2.2 t.2.1.1.1 t.2.1.1.2 t.2.1.2.1 t.2.1.2.2 t.2.2.1.1 t.2.2.1.2 t.2.2.2
def GF:=zE Yg (((({},(fun _ _=>True)),(Bk,#[])),(({},0),Bk)),(((0,Bk),(0,[])),(([],(fun _ _=>True)),Bk)))
def lu:=GF.1.1.1.1
def lU:=GF.1.1.1.2
def Yk:=GF.1.1.2.1
def rJ:=GF.1.1.2.2
def mA:=GF.1.2.1.1
def mP:=GF.1.2.1.2
def lI:=GF.1.2.2
def Iq:=GF.2.1.1.1
def zv:=GF.2.1.1.2
def oz:=GF.2.1.2.1
def xD:=GF.2.1.2.2
def mO:=GF.2.2.1.1
def sQ:=GF.2.2.1.2
def mL:=GF.2.2.2
theorem uu:VO lu lU Yk rJ mA mP lI Iq zv oz xD mO sQ mL:=fun m a2 hC hl X hf hx hc a0 hq=>by
 have a3:=eO;have a1:(Fi Iq==Fi 47)=false:=by simp[a0]
 have a4:=eE;have hn:(("__init__":Str)==("__class__":Str))=false:=by decide
 have n:({cls:=.type "super",dict:=none,data:=.fields #[.ref 47,.ref Iq,.ref 47],slots:=#[]}:C0).data=.fields #[.ref 47,.ref Iq,.ref 47]:=rfl;have f0:(#[.ref 47,.ref Iq,.ref 47]:Array Value)[0]? =some (.ref 47):=rfl;have f1:(#[.ref 47,.ref Iq,.ref 47]:Array Value)[1]? =some (.ref Iq):=rfl;have f2:(#[.ref 47,.ref Iq,.ref 47]:Array Value)[2]? =some (.ref 47):=rfl;unfold Builtin.«super.__getattribute__»
 repeat (first
  |(with_reducible refine Ka m n f0 ?_)|(with_reducible refine Ka m n f1 ?_)|(with_reducible refine Ka m n f2 ?_)
  |(with_reducible refine ks_wpAny_notOpaque a2 ?_)
  |(with_reducible refine Looks.at hC ?_;rw[hl])
  |(refine ks_forIn_along X (fun zz zz=>rfl) rfl ?_ hf)
  |(with_reducible refine⟨_,rfl,?_⟩)
  |(simp only[hn,a1,i4,HN,if_false])
  |wp_step
  |dsimp only)
 have hi:Kd (Ae pg w) Yk (Tk (.builtin "Exception.__init__") (.type "wrapper_descriptor")) true:=(Looks.of_pure eE).andThen (Looks.of_pure (by rw[YC];kernel_rfl));refine iw (id:="wrapper_descriptor.__get__") (b:=Builtin.«wrapper_descriptor.__get__») qb.plain kr ?_;refine @check_slot (Ae pg w) _ _ _ "wrapper_descriptor.__get__" "wrapper_descriptor" "__get__" (.builtin "Exception.__init__") [.ref Iq,.ref 47] [] _ vc mG hi (Zaa _ _ _) ?_;refine Za1 X hx hc ?_;show AR _ _ _ _ _ _
 repeat wp_step
 exact hq
theorem zZ{A E h g d t os x ox m l₀ l Q tk}:VO A E h g d t os x ox m l₀ l Q tk:=@zF _ Yg _ @uu ((((A,E),(h,g)),((d,t),os)),(((x,ox),(m,l₀)),((l,Q),tk)))
theorem vQ
  (m:h.get? so=some {cls:=.type "super",dict:=none,data:=.fields #[.ref 47,.ref x,.ref 47],slots:=#[]})(a2:Kd (Ae pg w) h (opaqueClassAbove (.ref 47)) none)
  (hC:Kd (Ae pg w) h (mroOf (.ref 47)) l₀)(hl:(l₀.dropWhile (· != .ref 47)).drop 1=l)(X:(KK w).In h)
  (hf:alongIn (KK w) "__init__" l=some (some (.builtin "Exception.__init__")))(hx:h.get? x=some ox)(hc:ox.cls=.ref 47)(a1:x≠47)
  (hq:Q (.ref h.objs.size,[]) ⟨h.push {cls:=.type "method-wrapper",data:=.fields #[.builtin "Exception.__init__",.ref x]},g,d,t+1,os⟩):
  AR (Ae pg w) A (GT (.ref so) "__init__" pl) Q E ⟨h,g,d,t,os⟩:=by
 have a0:=jB.lookup;have n:=PySem.F.ks_canon_super_ga;have hT:∀t',(⟨h,g,d,t',os⟩:AQ).TypeIs (.ref so) "super":=fun zz=>⟨_,m,rfl⟩;unfold GT;refine AE (Ta (hT _) a0 ?_);show AR _ _ (if(Manifest.canonical "super.__getattribute__" != "object.__getattribute__")=true then _ else _) _ _ _;rw[if_pos n];unfold Lm getAttrBy;refine AE (AE (g6 (CF (AE (Xs (hT _) (AE (Lo a0 ?_)))))));show AR _ _ (getAttrByItsOwn (.ref so) (.str "__init__" t) (.type "super") (.builtin "super.__getattribute__") true false) _ _ _;unfold getAttrByItsOwn hookBefore callGetattribute boundAndCalled;refine AE (Lo (show(if onTheHeap (.type "super")then No (.type "super") "__getattr__" else pure none)=pure none from rfl) ?_);refine AE (i3 (CF ?_));show AR _ _ (bindSpecial (.builtin "super.__getattribute__") (.ref so)>>=_) _ _ _;refine AE (Lo (jB.bind _) ?_);refine AT (Q:=fun v s'=>v=.ref h.objs.size∧s'=⟨h.push {cls:=.type "method-wrapper",data:=.fields #[.builtin "Exception.__init__",.ref x]},g,d,t+1,os⟩) (E:=fun zz zz=>False)
  (HM jB (hT _) PySem.F.ks_entry_super_ga (zZ m a2 hC hl X hf hx hc a1 ⟨_,rfl,rfl,rfl⟩) (PySem.F.ks_gaArgs_super _ _)) (fun v s' hv=>?_) fun zz zz z=>z.elim
 obtain⟨rfl,rfl⟩:=hv;exact Ad (Ad hq)
end
end
section
section
variable {M:Model} {A:Ab} {E:Value→AQ→Prop} {h:A3} {g:Array Gp} {d:Io} {t:Nat} {os:Gm} {x mw a:AB} {ox:C0} {v:Value}
abbrev MW(x:AB):C0:={cls:=.type "method-wrapper",data:=.fields #[.builtin "Exception.__init__",.ref x]}
theorem ua(n:h.get? x=some (Dt a))(k:∀h',(∀b o,b≠x→h.get? b=some o→h'.get? b=some o)→h'.get? x=some (Dt h.objs.size)→Q (.done (.ret .none)) ⟨h',g,d,t,os⟩):
  AR (Ae pg w) A (Builtin.«BaseException.__init__» ⟨[.ref x,v],[]⟩) Q E ⟨h,g,d,t,os⟩:=by
 have m:=BC (J2 [v]) n;unfold Builtin.«BaseException.__init__»
 repeat wp_step
 refine k _ (fun b o hb e=>?_) ?_
 ·rw[HO _ _ (Ne.symm hb)];exact BC _ e
 ·exact GS _ m rfl
theorem mS(X:(KK w).In h)(hx:h.get? x=some (Dt a))(hq:Q Unit.unit ⟨h,g,d,t,os⟩):AR (Ae pg w) A (jC "Exception.__init__" ⟨[.ref x,v],[]⟩) Q E ⟨h,g,d,t,os⟩:=by
 refine M8 (MM w) fun nm q bs n sn sub ab a0 dd k0 k1 k2 k3 k5 m=>?_;have hC:=X _ _ m;unfold jC
 repeat (first|with_reducible refine YE hC ?_|with_reducible refine Nz hC ?_|(with_reducible refine wpAny_onRaise ?_)|wp_step)
 exact hq
theorem wb(X:(KK w).In h)(hm:h.get? mw=some (MW x))(m:h.get? x=some (Dt a))
  (k:∀h',(∀b o,b≠x→h.get? b=some o→h'.get? b=some o)→h'.get? x=some (Dt h.objs.size)→Q .none ⟨h',g,d,t,os⟩):
  AR (Ae pg w) A (call (.ref mw) [v]) Q E ⟨h,g,d,t,os⟩:=by
 have F:=Ze7;refine KW (Ti ?_);show AR _ A.in1 (callAny (.ref mw) ⟨[v],[]⟩) _ _ _;unfold callAny;refine AE (YE hm ?_);simp -iota only[show(Ef "method-wrapper"==Ef "method"||Ef "method-wrapper"==Ef "builtin_function_or_method"||Ef "method-wrapper"==Ef "method-wrapper")=true by decide,if_true];show AR _ _ (jC "Exception.__init__" ⟨[.ref x,v],[]⟩>>=fun zz=>_) _ _ _;refine AE (mS X m ?_);refine AE (Ad (Ad ⟨X8 _ (by decide+kernel),?_⟩));refine Nu F.initEntry (ua m fun h' n k2=>?_);exact k h' n k2
theorem qO(n:args.any (·.1)=false)
  (h:AR M A (evalArgs (.ref mw) true args []) (fun xx s₁=>s₁.heap.get? mw=some (MW x)∧AR M A (call (.ref mw) xx.pos xx.kw) Q E s₁) E s):AR M A (EK a1 (.ref mw) [] args []) Q E s:=by
 unfold EK;refine AE (CF (AT h (fun x s₁ h₁=>AE (EJ ?_)) fun zz zz x=>x));refine AL h₁ fun ho a0=>?_;simp -iota only[n,List.any_nil,i4];refine AE (m:=keeperOf (.ref mw)) ?_;unfold keeperOf;refine AE (YE ho ?_);simp -iota only[show(Ef "method-wrapper" != Ef "method")=true by decide,show(Ef "method-wrapper"==Ef "builtin_function_or_method"||Ef "method-wrapper"==Ef "method-wrapper")=true by decide,if_true];refine Ad ?_;exact AE (AT a0 (fun r s₂ hr=>AE (CF (wpAny_point (Ad hr)))) fun zz zz x=>x)
theorem y8(w:AD):Pz (KK w) (.ref 47) "__setattr__"=some (some (.builtin "object.__setattr__")):=∅
theorem uP(w:AD):takerIn (KK w) 47 "what"=some none:=∅
theorem yS(w:AD):hasDictIn (KK w) 47=true:=∅
theorem wG(w:AD):mroIn (KK w) 47 (.type "object")=some true:=∅
theorem qi(self:Value):refuseLoop self "__setattr__" (.ref 47::J0)=Pure.pure Unit.unit:=by
 rw[refuseLoop_ref];kernel_rfl
theorem YT(w:AD):(clsIn (KK w) 47).map (·.mro)=some (.ref 47::J0):=by
 refine M8 (MM w) fun nm q bs n sn sub ab a0 dd k0 k1 k2 k3 k5 m=>?_;unfold clsIn;rw[m];rfl
theorem qV{od:Option C0}{tk:Tok}{R:Jn→AQ→Prop}{s:AQ}(X:(KK w).In s.heap)(I:InstAt s.heap x ox 47 od)
  (h:∀b,AR (Ae pg w) A.in1 (Builtin.ObjectAttr.storeInOwnDict (.ref x) (.ref 47) (.str "what" tk) "what" v b)
   (fun fin s'=>match fin with|.done f=>R (.ok f) s'|.again c'=>c'.quiet=true∧FA (Ae pg w) A c' R s') (fun e s'=>R (.error e) s') s):
  FA (Ae pg w) A (.call (.builtin "object.__setattr__") ⟨[.ref x,.str "what" tk,v],[]⟩) R s:=by
 have n:=PySem.F.store_object;refine AI (Pt.mp (YT w)) fun cd hc a0=>?_;have sub:Kd (Ae pg w) s.heap (Tk (.ref x) (.type "object")) true:=I.type.andThen (Xx X (wG w));refine iw n.slot.plain n.entry (@check_slot (Ae pg w) _ _ s "object.__setattr__" "object" "__setattr__" (.ref x) [.str "what" tk,v] [] _ n.kind n.split sub (n.args (.ref x) (.str "what" tk) v) ?_);refine AI (Option.bind_eq_some_iff.mp (uP w)) fun m ha hr=>?_;have hm:Kd (Ae pg w) s.heap (mroOf (.ref 47)) (.ref 47::J0):=a0▸(TN X hc).andThen .now;have L3:Kd (Ae pg w) s.heap (Builtin.ObjectAttr.storeTaker? m) none:=by
  cases m with
  |none=>exact .now
  |some a=>
   refine AI (Pt.mp hr) fun b hb e=>?_;refine(looks_takesIn X hb).andThen ?_;cases b
   ·exact .now
   ·exact Bf e
 rw[osa_eq,refuse_eq];refine AE (AE (I.type.here (AE (hm.here ?_))));rw[qi];exact Ad (AE (I.type.here (AE ((ij X ha).here (AE (L3.here (h _)))))))
theorem mZ(X:(KK w).In h)(hx:h.get? x=some (Dt a))
  (k:∀h' t' dx,(∀b o,b≠x→h.get? b=some o→h'.get? b=some o)→h'.get? x=some {Dt a with dict:=some dx}→Q Unit.unit ⟨h',g,d,t',os⟩):
  AR (Ae pg w) A (setAttr (.ref x) "what" v) Q E ⟨h,g,d,t,os⟩:=by
 have IA:InstAt h x (Dt a) 47 none:=⟨hx,rfl,rfl,trivial⟩;refine set_plain (K:=KK w) X IA (y8 w) (qV (s:=⟨h,g,d,t+1,os⟩) X IA fun b=>?_);refine AI (any_some (yS w)) fun cd a3 a7=>?_;refine AE (Ad (AE (AE (Xf hx (AE (TN X a3 _ _ _ _ (fun zz zz e=>e) ?_))))));rw[a7];show AR _ _ (alloc EL>>=_) _ _ _;refine AE (wpAny_alloc ?_);have a0:(h.push EL).get? x=some (Dt a):=BC _ hx;refine AE (wpAny_update a0 ?_);refine Ad (a:=some h.objs.size) ?_;let m:A3:=(h.push EL).update x fun o=>{o with dict:=some h.objs.size};show AR _ _ _ _ _ ⟨m,g,d,t+1,os⟩;have a2:h.objs.size≠x:=HP (DJ hx);have ho:m.get? h.objs.size=some EL:=by
  show((h.push EL).update x _).get? _=_;rw[HO _ _ (Ne.symm a2)];exact Bz _ rfl
 have a6:m.get? x=some {Dt a with dict:=some h.objs.size}:=GS _ a0 rfl;have a5:∀b o,b≠x→h.get? b=some o→m.get? b=some o:=fun b o hb e=>by
  show((h.push EL).update x _).get? _=_;rw[HO _ _ (Ne.symm hb)];exact BC _ e
 have b0:m.get? h.objs.size=some EL:=ho;generalize m=h3 at*;show AR _ _ (Ze8 h.objs.size _ _ v) _ _ _;unfold Ze8;refine AE (Ad (AE ?_));unfold nsSet;refine AE (AE (KV (Ad (AE (g6 (AE (Xf ho ?_)))))));dsimp only;have c:(not ((#[]:Array XX).any (·.key.isStr ("what":Str)))&&(#[]:Array XX).any (·.refKey))=false:=by simp
 rw[aRefKeyMayBeTheName_at,c];refine wpAny_updatePart ho ?_;refine Bx (bz (o:=EL) rfl (fun zz he=>by simp at he) "what" (Na w.params "what") (t+1) v) fun a9 a8 n=>Bs n fun q1 q2 q3 a1=>BN a1 fun q4 q5 q6=>?_;have ge:(h3.update h.objs.size (NZ "what" (Na w.params "what") (.str "what" (t+1)) v)).get? h.objs.size=some (NZ "what" (Na w.params "what") (.str "what" (t+1)) v EL):=
  GS _ ho (Xg q1)
 refine AE (wpAny_lookBehind ge (by rw[q1];exact pastItsLine_dict (by rw[CG];simp at q4;exact ln q4 rfl)) (Ad ?_));refine k _ _ h.objs.size (fun b o hb e=>?_) ?_
 ·have a4:b≠h.objs.size:=Bm (DJ e);rw[HO _ _ (Ne.symm a4)];exact a5 b o hb e
 ·rw[HO _ _ a2];exact a6
end
end
section
theorem vX(w:AD):On w (JK w).1 25 47 "self":=
 ⟨⟨_,by rfl,by rfl⟩,⟨36,_,_,_,_,_,_,by rfl,rfl,by rfl,∅⟩,⟨_,_,_,rfl⟩,⟨_,rfl⟩,∅,∅,∅,∅⟩
theorem pU(w:AD):alongIn (KK w) "__init__" (((.ref 47::J0:List Value).dropWhile (· != .ref 47)).drop 1)=some (some (.builtin "Exception.__init__")):=∅
theorem v6(w:AD):mroIn (KK w) 47 (.ref 47)=some true:=∅
section
variable {A:Ab} {E:Value→AQ→Prop} {h:A3} {g:Array Gp} {d:Io} {t:Nat} {os:Gm} {x a:AB} {v:Value} {R:Jn→AQ→Prop}
theorem jm(q:Q Unit.unit s):AR M A (Lk vs ks) Q E s:=fun n p m=>by rw[Sem.wp_release];exact q
def Ux(A:Ab)(h:A3)(g:Array Gp)(d:Io)(t:Nat)(os:Gm)(x:AB)(a:AB)(v:Value)(R:Jn→AQ→Prop):Prop:=∀(B:Ai)(Rm:Ah A 2)(n:∀b o,hb.get? b=some o→h.get? b=some o)(a0:hb.get? x=none)(hx:h.get? x=some (Dt a))(k:∀h' t' dx m,(∀b o,b≠x→h.get? b=some o→h'.get? b=some o)→h'.get? x=some {Dt m with dict:=some dx}→R (.ok (.ret .none)) ⟨h',g,d,t',os⟩),FA (Ae pg w) A (.call (.ref 37) ⟨[.ref x,v],[]⟩) R ⟨h,g,d,t,os⟩
def bf:(((Ab×A3)×Array Gp)×(Io×Nat))×(((Gm×AB)×AB)×(Value×(Jn→AQ→Prop)))→Prop:=fun t=>Ux t.1.1.1.1 t.1.1.1.2 t.1.1.2 t.1.2.1 t.1.2.2 t.2.1.1.1 t.2.1.1.2 t.2.1.2 t.2.2.1 t.2.2.2
def IV:=zE bf (((({},Bk),#[]),({},0)),(((Bk,0),0),(Bk,(fun _ _=>True))))
def xl:=IV.1.1.1.1
def Vo:=IV.1.1.1.2
def Vi:=IV.1.1.2
def UK:=IV.1.2.1
def UO:=IV.1.2.2
def UL:=IV.2.1.1.1
def FB:=IV.2.1.1.2
def Gf:=IV.2.1.2
def IJ:=IV.2.2.1
def oR:=IV.2.2.2
theorem qx:Ux xl Vo Vi UK UO UL FB Gf IJ oR:=fun B Rm n c9 hx k=>by
 refine B2 ((JK w).2.obj B n) fun o ho hd hc=>?_;refine EY B.T fun p loose mg mb T=>?_;have X:=vX w;refine AI X.par fun ar b5 a4=>?_;refine EY X.code fun e4 e8 e7 vs b6=>LN b6 fun e9 e3 tf b3=>Bs b3 fun b0 c2 d3 a6=>?_;refine LN X.cell fun cl e5 e6 b1=>?_;refine AX X.cls fun c5 b4=>?_;have b7:FB≠47:=fun e=>by
  rw[e]at hx;refine M8 (MM w) fun nm q bs e0 sn sub ab f1 dd k0 k1 k2 k3 k5 c6=>?_;have:=n _ _ (B.K _ _ c6);rw[this]at hx;cases hx
 refine ks_codeAny_call_defAt (fd:=(JK w).1) (body:=KH (JK w).1) (binds:=[("self",.ref FB),("what",IJ)]) Rm.d ho hd (T.nolimit.keeps n) (TP (K:=KK w) (fun Gf o e=>n _ _ (B.K Gf o e)) (JK w).2.code) rfl (.of_eq rfl)
  (fun y hy=>by have:=Fe.mp (show((JK w).1.scope.names.all fun FB=>FB.2 != .cell)=true by rfl) y hy;simpa using this)
  (by intro y hy;simp only[A7,HR,or_false]at hy;rcases hy with rfl|rfl<;>rfl) (fun a1 b2 m=>?_) () () ()
 have XK:(KK w).In a1:=fun Gf o e=>m _ _ (n _ _ (B.K Gf o e));have a8:=m _ _ hx;have a0:(fun y=>([("self",Fi FB),("what",IJ)]:List (Str×Value)).reverse.lookup y) "self"=some (.ref FB):=by rfl
 have a2:(fun y=>([("self",Fi FB),("what",IJ)]:List (Str×Value)).reverse.lookup y) "what"=some IJ:=by rfl
 obtain⟨oD,c4,c3⟩:∃oD,a1.get? 47=some oD∧oD.data=.cls c5:=by
  refine AI (Zp b4) fun o e1 e2=>?_;exact⟨o,XK _ _ e1,e2⟩
 have d1:(⟨Vo,Vi,UK,UO,UL⟩:AQ).heap.objs.size≠FB:=fun e=>by
  have:=DJ hx;rw[←e]at this;exact EI _ this
 generalize f0:(⟨Vo,Vi,UK,UO,UL⟩:AQ).heap.objs.size=Lf at*;refine ks_wpAt_execs_cons (ks_wpAt_Expr_any ?_ () ());refine ks_wpAt_MethodCall (pl:=_) ?_ ();refine ks_wpAt_super_base (env:=BA (JK w).1 Lf 37) () () ⋯ rfl (m _ _ ho) hd b5 b0 (XK _ _ c2) rfl d3 a6 X.top ?_;refine ks_loadName_global () () (g4 (env:=BA (JK w).1 Lf 37) (T.g.keeps fun b o e=>m _ _ (n _ _ e)) (mg_none_of B.K T.g X.sup) (T.b.keeps fun b o e=>m _ _ (n _ _ e)) ((T.builtins _ (by decide+kernel)).trans X.boot) ⟨rfl,?_⟩);refine wpAny_loadName_free () () (show(BA (JK w).1 Lf 37).cells.lookup _=some 25 by rfl) ⟨_,XK _ _ b1,rfl⟩ ?_;rw[a4];refine Lj () () b2 a0 ?_;refine ks_wpAny_isType_cls c4 c3 ⟨rfl,?_⟩;refine ks_wpAny_call_super c4 c3 a8 rfl (fun c e=>!nomatch e) (Xx XK (v6 w)) (fun h' e kp=>?_);have a7:(KK w).In h':=fun Gf o e=>kp _ _ (XK Gf o e);have hm:Kd (Ae pg w) h' (mroOf (.ref 47)) (.ref 47::J0):=by
  refine AI (Pt.mp (YT w)) fun cd hc d4=>?_;exact d4▸(TN a7 hc).andThen .now
 refine vQ e (looks_opaque a7 X.any) hm rfl a7 (pU w) (kp _ _ a8) rfl b7 ?_;have a3:∀b o,a1.get? b=some o→(h'.push (MW FB)).get? b=some o:=fun b o e=>BC _ (kp _ _ e);have c1:(h'.push (MW FB)).get? h'.objs.size=some (MW FB):=Bz _ rfl;refine qO (x:=FB) () ?_;show AR _ _ (evalArgs _ true (Df _ (BZ [_] _)) []) _ _ _;refine GX () ?_;refine TL (NY (Lj () () (b2.keeps a3) a2 ?_) ⋯) ();refine TJ ⟨c1,?_⟩;have d6:(KK w).In (h'.push (MW FB)):=fun Gf o e=>a3 _ _ (XK Gf o e);refine wb (a:=Gf) d6 c1 (a3 _ _ a8) fun h3 k3 d5=>?_;have a9:∀b o,b≠FB→a1.get? b=some o→h3.get? b=some o:=fun b o hb e=>k3 b o hb (a3 _ _ e);have c8:(KK w).In h3:=fun Gf o e=>a9 _ _ (fun q=>by
  have:=B.K Gf o e;rw[q,c9]at this;exact Au this) (XK Gf o e)
 have a5:h3.Ns Lf (fun y=>([("self",Fi FB),("what",IJ)]:List (Str×Value)).reverse.lookup y):=by
  refine Kv b2 fun o es ep e r=>?_;exact⟨o,es,ep,a9 _ _ d1 e,r⟩
 refine wpAt_of_wpAny (Pw ?_);refine wpAny_Assign_stores (NY (Lj () () a5 a2 ?_) ⋯) () ();show AR _ _ (do
  let ov ←CS [IJ] (A0 (.Name "self" _) _)
  Ck _
  CS [IJ,ov] (setAttr ov "what" IJ)
  Lk [IJ,ov] []) _ _ _
 refine AE (CF (NY (Lj () () a5 a0 ?_) ⋯));refine AE (EJ (AE (CF (mZ c8 d5 fun h4 t4 dx k4 d2=>?_))));refine jm (Xa ?_);exact k h4 t4 dx _ (fun b o hb e=>k4 b o hb (a9 b o hb (m b o e))) d2
theorem tv{A h g d t os x a v R}:Ux A h g d t os x a v R:=@zF _ bf _ @qx ((((A,h),g),(d,t)),(((os,x),a),(v,R)))
end
end
section
section
variable {A:Ab} {E:Value→AQ→Prop} {h:A3} {g:Array Gp} {d:Io} {t:Nat} {os:Gm} {x a:AB} {v:Value} {R:Jn→AQ→Prop}
structure Wi(h h':A3)(e:AB):Prop where
 keep:∀b o,h.get? b=some o→h'.get? b=some o
 new:h.get? e=none
 obj:∃dd vs tt sl,h'.get? e=some {cls:=.ref 47,dict:=dd,data:=.fields vs,slots:=sl}∧vs[0]? =some (.ref tt)∧vs[1]? =some .none
theorem sN(B:Ai)(Rm:Ah A 3)(m:∀b o,hb.get? b=some o→h.get? b=some o)(k:∀h' d' t' e,Wi h h' e→Q (.ref e) ⟨h',g,d',t',os⟩):
  AR (Ae pg w) A (call (.ref 47) [v]) Q E ⟨h,g,d,t,os⟩:=by
 refine KW (qw (fun a o e=>m _ _ (B.K a o e)) Rm fun A' R'=>?_);have n:∀b o,h.get? b=some o→((h.push (J2 [v])).push (Dt h.objs.size)).get? b=some o:=fun b o e=>BC _ (BC _ e);have hx:((h.push (J2 [v])).push (Dt h.objs.size)).get? (h.objs.size+1)=some (Dt h.objs.size):=by heap_get
 have hn:h.get? (h.objs.size+1)=none:=Ie (Gv _);have a0:hb.get? (h.objs.size+1)=none:=by
  cases q:hb.get? (h.objs.size+1)with
  |none=>rfl
  |some o=>exact Bf (((m _ _ q).symm.trans hn))
 refine tv B R' (fun b o e=>n b o (m b o e)) a0 hx fun h' t' dx a' k1 k2=>?_;exact⟨rfl,k h' d t' _ ⟨fun b o e=>k1 b o (fun q=>by rw[q,hn]at e;exact Au e) (n b o e),hn,_,_,_,_,k2,rfl,rfl⟩⟩
theorem pq(hh:A.handled=none)
  (h:AR (Ae pg w) A y (fun v s₁=>∃e dd vs sl,v=.ref e∧(KK w).In s₁.heap∧s₁.heap.get? e=some {cls:=.ref 47,dict:=dd,data:=.fields vs,slots:=sl}∧vs[1]? =some .none∧E (.ref e) s₁) E s):
  AR (Ae pg w) A (raiseStmt env (some y) none) Q E s:=by
 refine M8 (MM w) fun nm q bs a2 sn sub ab a3 dd k0 k1 k2 k3 k5 a0=>?_;have a1:(Fi 47::J0).contains (.type "BaseException")=true:=by decide+kernel
 unfold raiseStmt;refine AE (AT h (fun v s₁ h₁=>?_) fun zz zz x=>x);refine EY h₁ fun e dd vs sl m=>LA m fun n X he h1 hE=>?_;subst n;have hC:=X _ _ a0;obtain⟨hp,g,d,tk,os⟩:=s₁
 repeat (first|(with_reducible refine Nz he ?_)|with_reducible refine Nz hC ?_|(with_reducible refine wpAny_isSubtype_exc hC ?_;rw[a1])|wp_step)
 rw[h1];refine Ad ?_;rw[if_neg ⋯];exact Ad (wpAny_raiseNew_none hh hE)
theorem fP(w:AD):Cj (KK w) Bh "HeapError"=some (some (.ref 47)):=∅
theorem sJ(w:AD):Nb (KK w) (.ref 47)=true:=∅
theorem tw(B:Ai)(Rm:Ah A 3)(S:St env ρ σ s.heap)
  (k:AR (Ae pg w) A (A0 m env) (fun v s₁=>∃τ,G τ s₁.heap∧∀h' d' t' e,Wi s₁.heap h' e→E (.ref e) ⟨h',s₁.gens,d',t',s₁.os⟩) E s)
  (hx:env.kindOf "HeapError"=some .globalImplicit)(hk:env.scope.kind=.function)(hg:env.globals=Bh)(he:BZ [m] env=[(false,A0 m env)]):
  AR (Ae pg w) A (GR (.Raise (some (.Call (.Name "HeapError" np) [m] [] a1)) none a2) env) Q E s:=by
 refine EY B.T fun p loose mg mb T=>?_;rw[arm_exec_Raise];refine AE (EJ (pq Rm.handled ?_));show AR _ _ (A0 _ _>>=fun v=>Ck a2>>=fun zz=>Pure.pure v) _ _ _;refine AE (wpAny_Call_ofName ?_);refine XY hk hx (gy (hg▸T.g.keeps S.g.base) (mg_of B.K T.g (fP w)) ?_);have a0:(Df a1 (BZ [m] env)).any (·.1)=false:=by rw[he];rfl
 refine callWith_of (P:=fun h=>(KK w).In h) (by rw[a0];rfl) (keeps_K (sJ w)) (GX a0 ?_);refine TL (AT k (fun v s₁ n=>AI n fun τ g hq=>TJ ?_) fun zz zz e=>e) he;refine⟨fun a o e=>g.base _ _ (B.K a o e),?_⟩;obtain⟨hp,gg,d,tk,os⟩:=s₁;refine sN B Rm g.base fun h' d' t' e X=>?_;refine AE (EJ (Ad ?_));refine Rn X.obj fun dd vs tt sl ho h0 h1=>?_;exact⟨e,dd,vs,sl,rfl,fun a o e=>X.keep _ _ (g.base _ _ (B.K a o e)),ho,h1,hq h' d' t' e X⟩
end
end
section
variable {σ σ' σ'' σ₂ τ τ' σ0:AA} {s s₀ s' s'' s₂:AQ} {h h' h₁:A3} {A:Ab} {env:Af} {ρ ρ':AW} {l:List Af} {dead:List AB} {e:AB} {o:C0}
abbrev fl(l:List Af):List AB:=l.filterMap (·.frame)
structure Kx(A:Ab)(σ:AA)(l:List Af):Prop where
 fr:A.frames=some l
 kd:∀env∈l,env.scope.kind≠.module∧∃L,env.frame=some L
 own:∀b∈fl l,∃o,σ b=some (.frz o)
structure IW(l:List Af)(σ:AA)(s:AQ)(σ':AA)(h₁:A3)(dead:List AB)(s':AQ):Prop where
 g:G σ' h₁
 stp:Ar σ s σ' {s' with heap:=h₁}
 up:h₁.UpToSlots s'.heap
 stays:(Hz h₁ (dead++fl l)).StaysIn s'.heap
 dead:∀d∈dead,EW σ s d∧σ' d=none∧NT h₁ d
 fr:∀b∈fl l,∃o,σ' b=some (.frz o)
theorem IW.move(x:IW l σ s σ' h₁ dead s')(k:(Hz h₁ (dead++fl l)).StaysIn h')(u:s'.heap.UpToSlots h'):IW l σ s σ' h₁ dead {s' with heap:=h'}:=
 ⟨x.g,⟨x.stp.evo,x.stp.dom,x.stp.gens,x.stp.os⟩,x.up.trans u,k,x.dead,x.fr⟩
theorem IW.tk(x:IW l σ s σ' h₁ dead s'):Bp h₁ s'.heap:=fun a o items n q c d=>by
 refine x.stays a o (hideAll_get _ q fun m=>?_);rcases B9.mp m with m|m
 ·refine AI ((x.dead a m).2.2) fun o' q' n'=>?_;obtain rfl:=An ((q.symm.trans q'));exact n' ⟨c,_,_,d⟩
 ·refine AX (x.fr a m) fun ob a0=>?_;refine Me ((x.g.own _ _ a0).2) fun es ep dd zz sl e=>?_;obtain rfl:=An ((q.symm.trans e));exact(nomatch ((dd.symm.trans d)))
theorem IW.land(x:IW l σ s σ' h₁ dead s')(gs:G σ s.heap):G σ' s'.heap∧Ar σ s σ' s':=by
 have tk:=x.tk;have ex:∀b o,h₁.get? b=some o→b∉dead→b∉fl l→s'.heap.get? b=some o:=fun b o q n1 n2=>x.stays b o (hideAll_get _ q fun m=>(B9.mp m).elim n1 n2);have a1:∀b o,hb.get? b=some o→b∉dead∧b∉fl l:=fun b o q=>by
  refine⟨fun m=>?_,fun m=>?_⟩
  ·have hs:=gs.base b o q;cases z:σ b with
   |none=>have:=(x.dead b m).1 z;exact Bf ((hs.symm.trans this))
   |some y=>have:=(gs.own b y z).1;exact Bf ((q.symm.trans this))
  ·refine AX (x.fr b m) fun ob a0=>?_;have:=(x.g.own _ _ a0).1;exact Bf ((q.symm.trans this))
 refine⟨⟨fun b o q=>ex b o (x.g.base b o q) (a1 b o q).1 (a1 b o q).2,fun a y ey=>⟨(x.g.own a y ey).1,?_⟩⟩,⟨fun b o q n=>?_,x.stp.dom,x.stp.gens,x.stp.os⟩⟩
 ·have O:=(x.g.own a y ey).2;by_cases m:a∈fl l
  ·refine AX (x.fr a m) fun ob a0=>?_;obtain rfl:=An ((a0.symm.trans ey));refine Me O fun es ep dd k sl q=>?_;refine AX (x.up a _ q (fun vs r=>by dsimp only at r;rw[dd]at r;cases r)) fun a2 q'=>?_;exact⟨⟨es,ep,dd,k⟩,a2,q'⟩
  ·refine AI O.there fun ob q zz=>?_;refine O.keeps ((ex a ob q (fun m'=>?_) m).trans q.symm) tk;exact Au ((((x.dead a m').2.1).symm.trans ey))
 ·refine AI (x.stp.evo b o q n) fun o' q' f=>?_;refine⟨o',ex b o' q' (fun m=>?_) (fun m=>?_),f⟩
  ·have:=(x.dead b m).1 n;exact Bf ((q.symm.trans this))
  ·refine AX (x.fr b m) fun ob a0=>?_;have:=x.stp.dead q n;exact Bf ((a0.symm.trans this))
theorem St.frozen(S:St env ρ σ h):∃o,h.get? env.locals=some o∧(∃es ep,o.data=.dict es ep∧Ia es)∧G (upd σ env.locals (.frz o)) h:=by
 refine UX S.l.ns fun m o es ep ho hd n zz zz=>?_;exact⟨o,ho,⟨es,ep,hd,n⟩,S.g.adopt S.nL.2 ⟨⟨es,ep,hd,n⟩,o.slots,ho⟩⟩
theorem jg(n:σ L=none):Cd (upd σ L x) L=σ:=funext fun b=>by
 unfold Cd;by_cases e:b=L
 ·rw[if_pos e,e,n]
 ·rw[if_neg e,Av _ _ e]
theorem Gd(h:b≠L):Cd σ L b=σ b:=if_neg h
theorem St.thaw(S:St env ρ σ s.heap)(ho:s.heap.get? env.locals=some o)(g:G σ' s'.heap)(x:Ar (upd σ env.locals (.frz o)) s σ' s')(hL:σ' env.locals=some (.frz o)):
  G (Cd σ' env.locals) s'.heap∧Ar σ s (Cd σ' env.locals) s':=by
 refine Me ((g.own _ _ hL).2) fun es ep dd k sl q=>?_;refine⟨g.weaken (UU σ' env.locals),⟨fun b ob e n=>?_,fun b q'=>?_,x.gens,x.os⟩⟩
 ·by_cases m:b=env.locals
  ·subst m;obtain rfl:=An ((ho.symm.trans e));exact⟨_,q,.inr ⟨⟨es,ep,dd,k⟩,sl,rfl⟩⟩
  ·exact x.evo b ob e (by rw[Av _ _ m];exact n)
 ·by_cases m:b=env.locals
  ·rw[m,VC]at q';exact absurd rfl q'
  ·rw[Gd m]at q';rcases x.dom b q' with d|d
   ·rw[Av _ _ m]at d;exact .inl d
   ·exact .inr d
inductive H6(env:Af)(l:List Af)(σ:AA)(s:AQ)(Ψ:AA→Prop)(e:AB)(s':AQ):Prop
 |mk (ρ₂:AW) (σ₂:AA) (s₂:AQ) (S:St env ρ₂ σ₂ s₂.heap) (t:Ar (fx env σ) s (fx env σ₂) s₂) (X:Wi s₂.heap s'.heap e) (g:s'.gens=s₂.gens) (o:s'.os=s₂.os) (k:∀b∈fl l,σ₂ b=σ b) (q:Ψ σ₂)
def gP{m a1 a2 a3 n a5 a6}{c:Prop}:=@H6.casesOn m a1 a2 a3 n a5 a6 (fun _=>c)
inductive RP(P:AB→AQ→Prop)(ev:Value)(s':AQ):Prop
 |mk (e:AB) (e1:ev=.ref e) (x:P e s')
def Ld{m n a2}{c:Prop}:=@RP.casesOn m n a2 (fun zz=>c)
def Gb(A:Ab)(env:Af)(l:List Af)(t:Sem Ic)(ρ:AW)(σ:AA)(Ψ:AA→Prop):Prop:=
 ∀s,St env ρ σ s.heap→AR (Ae pg w) A t (fun m m=>False) (RP (H6 env l σ s Ψ)) s
def Hk(B:A3)(l:List Af)(e:AB)(t:Value)(L:AB)(h:A3):Prop:=jD B l e (.ref 47) t h∨Tt B l e (.ref 47) t L h
inductive Iw(env:Af)(l:List Af)(σ:AA)(s:AQ)(Ψ:AA→Prop)(e:AB)(s':AQ):Prop
 |mk (ρ₂:AW) (σ₂:AA) (s₂:AQ) (o:C0) (σ':AA) (h₁:A3) (dead:List AB) (v:Value) (S:St env ρ₂ σ₂ s₂.heap) (t:Ar (fx env σ) s (fx env σ₂) s₂) (ho:s₂.heap.get? env.locals=some o) (ln:IW (env::l) (upd σ₂ env.locals (.frz o)) s₂ σ' h₁ dead s')
  (hH:Hk (Hz h₁ (dead++fl (env::l))) (env::l) e v env.locals s'.heap) (k:∀b∈fl l,σ' b=σ b) (hz:σ' env.locals=some (.frz o)) (q:Ψ (Cd σ' env.locals))
def Wz{m a1 a2 a3 n a5 a6}{c:Prop}:=@Iw.casesOn m a1 a2 a3 n a5 a6 (fun _=>c)
inductive Rf(l:List Af)(σ:AA)(s:AQ)(Ψ:AA→Prop)(e:AB)(s':AQ):Prop
 |mk (σ':AA) (h₁:A3) (dead:List AB) (v:Value) (ln:IW l σ s σ' h₁ dead s') (fy:jD (Hz h₁ (dead++fl l)) l e (.ref 47) v s'.heap) (k:∀b∈fl l,σ' b=σ b) (q:Ψ σ')
def Zc7{m a1 a2 a3 n a5}{c:Prop}:=@Rf.casesOn m a1 a2 a3 n a5 (fun _=>c)
def RX(A:Ab)(env:Af)(l:List Af)(t:Sem Ic)(ρ:AW)(σ:AA)(Ψ:AA→Prop):Prop:=
 ∀s,St env ρ σ s.heap→AR (Ae pg w) A t (fun m m=>False) (RP (Iw env l σ s Ψ)) s
def JU(A:Ab)(f:Value)(args:List AV)(l:List Af)(σ:AA)(Ψ:AA→Prop):Prop:=
 ∀s vs,Kx A σ l→G σ s.heap→VRs s.heap args vs→AR (Ae pg w) A (call f vs) (fun m m=>False) (RP (Rf l σ s Ψ)) s
theorem gD{st:DD}(k:Gb A env l (GR st env) ρ σ Ψ):Gb A env l (Ff (st::rest) env) ρ σ Ψ:=fun s S=>Pw (AT (k s S) (fun m m q=>q.elim) fun m m q=>q)
theorem NK{st:DD}(k:RX A env l (GR st env) ρ σ Ψ):RX A env l (Ff (st::rest) env) ρ σ Ψ:=fun s S=>Pw (AT (k s S) (fun m m q=>q.elim) fun m m q=>q)
theorem H6.back(x:H6 env l n s₁ Ψ e s')(t:Ar (fx env σ) s (fx env n) s₁)(k:∀b∈fl l,n b=σ b):H6 env l σ s Ψ e s':=by
 refine gP x fun a0 σ₂ s₂ S a1 X g o kk q=>?_;exact⟨a0,σ₂,s₂,S,t.trans a1,X,g,o,fun b m=>(kk b m).trans (k b m),q⟩
theorem Iw.back(x:Iw env l n s₁ Ψ e s')(t:Ar (fx env σ) s (fx env n) s₁)(k:∀b∈fl l,n b=σ b):Iw env l σ s Ψ e s':=by
 refine Wz x fun a0 σ₂ s₂ o σ' h₁ dead tt S a1 ho x1 x2 kk x3 q=>?_;exact⟨a0,σ₂,s₂,o,σ',h₁,dead,tt,S,t.trans a1,ho,x1,x2,fun b m=>(kk b m).trans (k b m),x3,q⟩
theorem RX.seq{st:DD}(k:Eg A env st ρ σ fun f n m=>f=.next∧(∀b∈fl l,m b=σ b)∧RX A env l (Ff rest env) n m Ψ):RX A env l (Ff (st::rest) env) ρ σ Ψ:=fun s S=>
 Pw (AT (k s S) (fun f s₁ z=>HI z fun af n m r a0 a1 z=>BN z fun e1 kk q=>by
  subst e1;cases f<;>first|exact r.elim|exact AT (q s₁ a0) (fun zz zz q=>q.elim) fun ev s' f=>Ld f fun e e1 x=>⟨e,e1,x.back a1 kk⟩) fun zz zz q=>q.elim)
theorem Zb7{b e:List DD}(k:TR A env t ρ σ fun c m=>c=true∧(∀b∈fl l,m b=σ b)∧Gb A env l (Ff b env) ρ m Ψ):Gb A env l (GR (.If t b e a0) env) ρ σ Ψ:=fun s S=>
 wpAny_If (AT (k s S) (fun c s₁ z=>E0 z fun m g n z=>BN z fun e1 kk q=>by
  subst e1;exact AT (q s₁ (S.step g n)) (fun zz zz q=>q) fun ev s' f=>Ld f fun e e1 x=>⟨e,e1,x.back n.toF kk⟩) fun zz zz q=>q.elim)
theorem Zbv{b e:List DD}(k:TR A env t ρ σ fun c m=>(∀b∈fl l,m b=σ b)∧if c then RX A env l (Ff b env) ρ m Ψ else RX A env l (Ff e env) ρ m Ψ):RX A env l (GR (.If t b e a0) env) ρ σ Ψ:=fun s S=>
 wpAny_If (AT (k s S) (fun c s₁ z=>E0 z fun m g n z=>AL z fun kk q=>by
  cases c<;>exact AT (q s₁ (S.step g n)) (fun zz zz q=>q) fun ev s' f=>Ld f fun e e1 x=>⟨e,e1,x.back n.toF kk⟩) fun zz zz q=>q.elim)
theorem Zc0(B:Ai)(Rm:Ah A 3)(a6:ρ x=some (.int i))(hi:i.natAbs<1000)(ht:n.length≤1000)(q:Ψ σ)
  (a5:Cf (env.kindOf x)=true)(a7:(x==("__debug__":Str))=false)(hx:env.kindOf "HeapError"=some .globalImplicit)(hk:env.scope.kind=.function)(hg:env.globals=Bh):
  Gb A env l (GR (.Raise (some (.Call (.Name "HeapError" np) [.JoinedStr [.Constant (.str n) k0 p1,.FormattedValue (.Name x p2) (-1) none p3] p4] [] a8)) none a9) env) ρ σ Ψ:=fun s S=>by
 refine tw B Rm S ?_ hx hk hg ();have a4:i.natAbs.log2<1920:=Xv (Nat.log2_le_self _) (!ln hi rfl);refine JoinedStr_many (joinParts_cons (TI ?_));have l0:(Str.empty++n).length=n.length:=by rw[strLen_append];show 0+_=_;exact A5 qQ
 refine⟨by rw[l0,CG];exact ln ht rfl,?_⟩;refine joinParts_cons (FormattedValue_plain (AT (AG (A:=A) (Φ:=fun v σ'=>v=.int i∧σ'=σ) a6 ⟨rfl,rfl⟩ a5 hk a7 _ S) (fun v s₂ a1=>BG a1 fun av m r g t a2=>AL a2 fun e1 e2=>?_) fun zz zz q=>q.elim));subst e1 e2;refine AX r.inv_int fun tk a3=>?_;subst a3;refine wpAny_formatField_int a4 ?_;have l1:(QG (toString i)).length≤5:=by
  have e:=int_text_length_le10 (k:=3) ⋯ (show i.natAbs<10 ^ 3 from hi);rw[PySem.ofString_length];exact ln e rfl
 have l2:((Str.empty++n)++QG (toString i)).length≤Nj:=by rw[strLen_append,l0,CG];exact Am jP ht l1
 refine⟨l2,joinParts_nil ?_ l2⟩;have a0:=S.step (s:={s with toks:=s.toks+1}) g ⟨t.evo,t.dom,t.gens,t.os⟩;refine⟨m,g,fun h' d' t' e X=>⟨e,rfl,ρ,m,s₂,a0,⟨t.toF.evo,t.toF.dom,t.gens,t.os⟩,X,rfl,rfl,fun zz zz=>rfl,q⟩⟩
theorem aw(g:G σ h):∀{l:List Af},(∀env∈l,env.scope.kind≠.module∧∃L,env.frame=some L)→(∀b∈fl l,∃o,σ b=some (.frz o))→(∀b∈fl l,B.get? b=none)→h.FunFrames B l
 |[],_,_,_=>trivial
 |env::r,kd,n,hB=>by
  refine Fw (kd env (.head _)) fun hk L hL=>?_;have hm:L∈fl (env::r):=by rw[fl,Np,hL];exact .head _
  have sub:∀b∈fl r,b∈fl (env::r):=fun b m=>by rw[fl,Np,hL];exact .tail _ m
  refine AX (n L hm) fun o ho=>?_;refine Me ((g.own _ _ ho).2) fun es ep dd zz sl q=>?_;exact⟨hk,⟨L,_,hL,hB L hm,q,fun vs r=>by dsimp only at r;exact(nomatch ((dd.symm.trans r)))⟩,aw g (fun env m=>kd env (.tail _ m)) (fun b m=>n b (sub b m)) fun b m=>hB b (sub b m)⟩
inductive SZ(env:Af)(l:List Af)(L:AB)(σ:AA)(s:AQ)(Ψ:AA→Prop)(e:AB)(s':AQ):Prop
 |mk (ρ₂:AW) (σ₂:AA) (s₂:AQ) (o:C0) (σ':AA) (h₁:A3) (dead:List AB) (v:Value) (S:St env ρ₂ σ₂ s₂.heap) (t:Ar (fx env σ) s (fx env σ₂) s₂) (ho:s₂.heap.get? env.locals=some o) (ln:IW (env::l) (upd σ₂ env.locals (.frz o)) s₂ σ' h₁ dead s')
  (hH:Tt (Hz h₁ (dead++fl (env::l))) (env::l) e (.ref 47) v L s'.heap) (k:∀b∈fl l,σ' b=σ b) (hz:σ' env.locals=some (.frz o)) (q:Ψ (Cd σ' env.locals))
def Zcq{m a1 a2 a3 n a5 a6 a7}{c:Prop}:=@SZ.casesOn m a1 a2 a3 n a5 a6 a7 (fun _=>c)
theorem H6.note(hf:env.frame=some L)(hL:env.locals=L)(hk:env.scope.kind=.function)(hA:A.frames=some (env::l))(kd:∀env∈l,env.scope.kind≠.module∧∃L,env.frame=some L)(a3:∀b∈fl l,∃o,σ b=some (.frz o))
  (x:H6 env l σ s Ψ e s')
  (q:∀s'',SZ env l L σ s Ψ e s''→Q Unit.unit s''):
  AR (Ae pg w) A (Nh (.ref e) env) Q E s':=by
 refine gP x fun a1 σ₂ s₂ S a5 X hg b1 kk hq=>?_;refine Rn X.obj fun dd vs tt sl a0 h0 h1=>?_;refine B2 S.frozen fun o a8 b0 gF=>?_;have a7:fl (env::l)=L::fl l:=by rw[fl,Np,hf]
 have ne:∀b∈fl l,b≠env.locals:=fun b m q=>by
  refine AX (a3 b m) fun ob n=>?_;rw[←kk b m,q,S.nL.1]at n;exact Au n
 have fz:∀b∈fl (env::l),∃o',upd σ₂ env.locals (.frz o) b=some (.frz o'):=fun b m=>by
  rw[a7]at m;rcases A7.mp m with rfl|m
  ·exact⟨o,by rw[←hL,Ao]⟩
  ·refine AX (a3 b m) fun ob n=>?_;exact⟨ob,by rw[Av _ _ (ne b m),kk b m];exact n⟩
 have g':G (upd σ₂ env.locals (.frz o)) s'.heap:=gF.keeps X.keep;have a6:Ar (upd σ₂ env.locals (.frz o)) s₂ (upd σ₂ env.locals (.frz o)) s':=.keeps X.keep hg b1;have nE:upd σ₂ env.locals (.frz o) e=none:=by
  cases z:upd σ₂ env.locals (.frz o) e with
  |none=>rfl
  |some y=>refine AI ((gF.own _ _ z).2.there) fun ob q zz=>?_;exact Au ((X.new.symm.trans q))
 have a2:∀b∈[e]++fl (env::l),(Hz s'.heap ([e]++fl (env::l))).get? b=none:=fun b m=>hideAll_none _ m;have a9:s'.heap.FunFrames (Hz s'.heap ([e]++fl (env::l))) (env::l):=aw g' (fun en m=>by
  rcases A7.mp m with rfl|m
  ·exact⟨by rw[hk];decide,L,hf⟩
  ·exact kd en m) fz fun b m=>a2 b (Ed _ m)
 have b3:(Hz s'.heap ([e]++fl (env::l))).StaysIn s'.heap:=fun b ob q=>of_hideAll _ q;unfold Nh;simp only[hf];refine AE (Ka a0 rfl h1 ?_);rw[if_neg ⋯];refine wpAny_entryW hA a9 hf a0 b3 (a2 e (!Dg)) rfl (Nn.mp h1).1 h0 fun h' a4=>Bs a4 fun k1 k2 k3 k4=>?_;refine q _ ⟨a1,σ₂,s₂,o,upd σ₂ env.locals (.frz o),s'.heap,[e],_,S,a5,a8,⟨g',a6,k4,k1,fun d m=>?_,fz⟩,⟨k1,a2 e (!Dg),k2,k3⟩,fun b m=>by rw[Av _ _ (ne b m)];exact kk b m,Ao _ _ _,by rw[jg S.nL.1];exact hq⟩;rw[Aq.mp m];exact⟨fun zz=>X.new,nE,_,a0,fun b2=>AL b2 fun q zz=>by simp at q⟩
theorem rI(hf:env.frame=some L)(H:Tt B l e (.ref 47) t L s.heap)
  (q:∀h',Tt B l e (.ref 47) t L h'→s.heap.UpToSlots h'→Q Unit.unit {s with heap:=h'}):
  AR (Ae pg w) A (do
   if(←field (.ref e) 1)== .none then unsupported "frame.own-activation:exception-without-traceback"
   setFlight (.ref e) env.frame) Q E s:=by
 obtain⟨f1,f2,f3,oe,vs,T,oT,ts,he,a6,hd,h1,a5,a4,hT,a1,h3⟩:=H;have a2:3<ts.size:=(Nn.mp h3).1;refine AE (Ka he hd h1 ?_);rw[if_neg (by simp)];rw[hf];have n:∀b,b≠T→(s.heap.update T (Obj.mapFields (·.setIfInBounds 3 (Bi L)))).get? b=s.heap.get? b:=fun b hb=>HO _ _ (Ne.symm hb);have m:∀b o,s.heap.get? b=some o→(∀vs,o.data≠.fields vs)→b≠T:=fun b o hb a0 q=>by
  rw[q,hT]at hb;injection hb with hb;subst hb;exact a0 ts a1
 unfold setFlight;refine AE (Ka he hd h1 ?_);rw[if_pos (show(Fi T != Lu)=true from by simp)];refine L1 hT a1 a2 ?_;refine q _ ⟨fun b o a3=>(n b fun q=>by rw[q,a5]at a3;exact Au a3).trans (f1 b o a3),f2,f3.of_keeps fun b o hb a0=>⟨o,(n b (m b o hb a0)).trans hb,rfl⟩,
  oe,vs,T,_,_,(n e (Ne.symm a4)).trans he,a6,hd,h1,a5,a4,GS _ hT (Obj.isFreed_of_fields (Obj.data_mapFields a1 _)),Obj.data_mapFields a1 _,by simp[a2]⟩
  fun b o hb a0=>⟨o.slots,(n b (m b o hb a0)).trans hb⟩
inductive RD(env:Af)(σ:AA)(s:AQ)(N:Nat)(Inv:Nat→AW→AA→Prop)(I:AB)(src:BH)(n:Nat)(s':AQ):Prop
 |mk (i:Nat) (ρ':AW) (σ':AA) (hn:N<n+i) (inv:Inv i ρ' σ') (S:St env ρ' σ' s'.heap) (t:Ar (fx env σ) s (fx env σ') s') (it:Bo w (fx env σ') s'.heap I src i)
def Zc3{m a1 a2 a3 n a5 a6 a7 a8}{c:Prop}:=@RD.casesOn m a1 a2 a3 n a5 a6 a7 a8 (fun _=>c)
theorem Zbw{target a6:Expr}{body:List DD}{d6:A8}{Ψ:AA→Prop}{L:AB}(hh:A.handled=none)(hf:env.frame=some L)(hL:env.locals=L)(hk:env.scope.kind=.function)(hA:A.frames=some (env::l))(kd:∀env∈l,env.scope.kind≠.module∧∃L,env.frame=some L)(e2:∀b∈fl l,∃o,σ b=some (.frz o))
  (k:BQ A env a6 ρ σ fun a4 a1=>Hp a4 target∧a4.open_∧∃(N:Nat)(Inv:Nat→AW→AA→Prop),Inv 0 ρ a1∧∀i ρ' σ',Inv i ρ' σ'→i≤N∧∃x,a4.nxt σ' i (some x)∧
   AP A env (Fh target env) x ρ' σ' fun a2 σ₂=>if i<N then EX A env body a2 σ₂ (Vt (Inv (i+1)) fun zz zz zz=>False)else(∀b∈fl l,σ₂ b=σ b)∧Gb A env l (Ff body env) a2 σ₂ Ψ)
  (hs:autoParam (∀x,Gw a6 env x=pure x) aI):RX A env l (GR (.For target a6 body [] d6) env) ρ σ Ψ:=fun s S=>by
 have EE:∀{α:Type}{t:Sem α}{P Q:α→AQ→Prop}{E:Value→AQ→Prop}{s:AQ},AR (Ae pg w) A t P (fun zz zz=>False) s→(∀a s,P a s→Q a s)→AR (Ae pg w) A t Q E s:=fun h k=>AT h (fun a s q=>k a s q) fun zz zz q=>q.elim;refine wpAny_For (EE (k s S) fun v s₁ h₁=>EE h₁ fun it s₂ d4=>Jb d4 fun I a4 a1 e1 e5 d3 g t c5=>BN c5 fun ht ho c4=>Cp c4 fun N Inv i0 step=>?_) hs;subst e1;have b6:St env ρ a1 s₂.heap:=S.step g t;have e3:=Oh S.g d3;have e6:∀b∈a4.own I,EW (fx env σ) s b:=fun b m n=>d3 b m (IL n).1;refine codeAny_forLoop_any (RD env σ s N Inv I a4) (fun n s' z=>Zc3 z fun i ρ' σ' hn f0 S' t' b5=>?_) (N+1) ⟨0,ρ,a1,!A9 _,i0,b6,t.toF,e5.toF b6 ho⟩;refine RB (step i ρ' σ' f0) fun f4 r hr q=>?_;have c6:=b5.fields;refine EE (Bo.next (target:=target) (E:=fun zz zz=>False) S'.g b5 hh hr ht) fun o f1 b1=>?_
 cases o with
 |none=>refine AL b1 fun e kp=>?_;exact Bf e
 |some v=>
  refine EE b1 fun zz d5 z=>NU z fun x e rx a9 kp=>?_;obtain rfl:=An e;have b4:=S'.kp kp (fun b m=>(c6 b m).1) (fun b m=>⟨e3 b m,(c6 b m).2⟩);have b2:=kp.stp t' e6;refine EE (q d5 v b4 rx) fun zz b0 z=>Je z fun a2 σ₂ a7 a3 a0=>?_;have c3:=a9.step a3 (b4.tupF a3)
  try dsimp only at a0
  by_cases hi:i<N
  ·rw[if_pos hi]at a0;refine EE (a0 b0 a7) fun fl c8 z=>HI z fun af b7 c1 d2 d1 a8 b3=>?_;have T:=b2.trans (a3.trans a8);have c2:=c3.step a8 (a7.tupF a8);cases fl<;>cases af<;>first
    |exact d2.elim
    |exact b3.elim
    |exact⟨n-1,!ju hn hi,i+1,b7,c1,!o6 hn,b3,d1,T,c2⟩
  ·rw[if_neg hi]at a0;refine AT (a0.2 b0 a7) (fun zz zz q=>q.elim) fun ev c8 z=>Ld z fun e e1 x=>?_;subst e1;have x':=x.back (b2.trans a3) a0.1;refine x'.note hf hL hk hA kd e2 fun f3 z=>Zcq z fun e0 e8 sa o e7 ha dead tt Sa ta e9 la hH kk hz e4=>?_;refine rI hf hH fun f2 a5 c9=>?_;exact⟨e,rfl,e0,e8,sa,o,e7,ha,dead,tt,Sa,ta,e9,la.move a5.1 c9,by rw[hL];exact .inr a5,kk,hz,e4⟩
theorem wC(k:∀b,b∈n↔b∈bs):(Hz h n).StaysIn (Hz h bs):=fun b o q=>by
 have hm:b∉n:=fun m=>by exact Au (((hideAll_none _ m).symm.trans q))
 exact hideAll_get _ (of_hideAll _ q) fun m=>hm ((k b).mpr m)
theorem Sv{x name:Str}{p a1 a0 a3:A8}{args:List Expr}{a C dx f L:AB}{n:Nat}{fs:Str→Option AV}{fd:Aj}{Ψ:AA→Prop}(B:Ai)(hx:ρ x=some (.ref a))(I:Dm σ a C dx n fs)(hn:fs name=none)(M:B1 w C name f)(F:Ak w f fd)
  (hf:env.frame=some L)(hL:env.locals=L)(b2:env.scope.kind=.function)(hA:A.frames=some (env::l))(kd:∀env∈l,env.scope.kind≠.module∧∃L,env.frame=some L)(a9:∀b∈fl l,∃o,σ b=some (.frz o))
  (k:AC A env a0 args ρ σ fun xs σ₂=>(∀b∈fl l,σ₂ b=σ b)∧(σ₂ L=none→∀o,JU A (.ref f) (.ref a::xs) (env::l) (upd σ₂ L (.frz o)) fun σ'=>Ψ (Cd σ' L)))
  (hk:Cf (env.kindOf x)=true)(hd:(x==("__debug__":Str))=false)(hp:CJ args=true)
  {pl:Sem Bool}(he:A0 (.Call (.Attribute (.Name x p) name a1) args [] a0) env=(do
   let ov ←A0 (.Name x p) env
   Ck a1.atName
   let(f,first) ←CS [ov] (GT ov name pl)
   EK a0 f first (Df a0 (BZ args env)) (Hv a0 (Hw [] env))))
  (hi:interactive env=false)(hs:Px (.Call (.Attribute (.Name x p) name a1) args [] a0) none a3.line env=pure false):
  RX A env l (GR (.Expr (.Call (.Attribute (.Name x p) name a1) args [] a0) a3) env) ρ σ Ψ:=fun s S=>by
 have EE:∀{α:Type}{t:Sem α}{P Q:α→AQ→Prop}{E:Value→AQ→Prop}{s:AQ},AR (Ae pg w) A t P (fun zz zz=>False) s→(∀a s,P a s→Q a s)→AR (Ae pg w) A t Q E s:=fun h k=>AT h (fun a s q=>k a s q) fun zz zz q=>q.elim;rw[exec_Expr env _ a3 hi hs];refine AE (EJ (AE (AT (Q:=fun zz zz=>False) ?_ (fun zz zz q=>q.elim) fun zz zz q=>q)));refine Xh (kws:=[]) (pl:=pl) (EE (AG (A:=A) (Φ:=fun v σ'=>v=.ref a∧σ'=σ) hx ⟨rfl,rfl⟩ hk b2 hd s S) fun u s₁ b5=>BG b5 fun v c4 r g t b4=>AL b4 fun e1 e2=>?_) he;subst e1 e2;obtain rfl:=VR.inv_ref r;refine Rz (I.at g) fun o es ep ho IA hc c8 c6 d1 hl=>?_;refine BN (hl name) fun l1 l2 l3=>?_;have X:(KK w).In s₁.heap:=fun a o e=>g.base _ _ (B.K a o e);refine method_fn (K:=KK w) X IA (TM M.g).1 (TM M.g).2 M.f ?_ (by unfold shadowIn;simp[l1,l2 hn]) ?_
 ·refine Bx F.at_ fun od c3 e=>?_;show((KK w).lookup f).map (·.cls)=_;rw[e];rfl
 have a2:=S.step g t;refine B2 (F.obj B a2.g.base) fun of c5 b7 c9=>?_;refine g7 (o:=of) (fd:=fd) (GX (Er hp) ?_);refine EE (k s₁ a2) fun vs s₂ b3=>GM b3 fun xs σ₂ b1 a7 a6 b0=>AL b0 fun kk q=>⟨⟨?_,b7⟩,?_⟩
 ·refine Bx F.at_ fun od c3 e=>?_;have q1:=a2.g.base _ _ (B.K _ _ e);have q2:=a7.base _ _ (B.K _ _ e);rw[c5]at q1;rw[q2,q1]
 ·have a4:=a2.step a7 a6;refine B2 a4.frozen fun oL b6 c1 gF=>?_;rw[hL]at gF b6;have nL:=a4.nL.1;rw[hL]at nL;have a8:fl (env::l)=L::fl l:=by rw[fl,Np,hf]
  have ne:∀b∈fl l,b≠L:=fun b m q=>by
   refine AX (a9 b m) fun ob a5=>?_;rw[←kk b m,q,nL]at a5;exact Au a5
  have al:Kx A (upd σ₂ L (.frz oL)) (env::l):=⟨hA,fun en m=>by
   rcases A7.mp m with rfl|m
   ·exact⟨by rw[b2];decide,L,hf⟩
   ·exact kd en m,fun b m=>by
   rw[a8]at m;rcases A7.mp m with rfl|m
   ·exact⟨oL,Ao _ _ _⟩
   ·refine AX (a9 b m) fun ob a5=>?_;exact⟨ob,by rw[Av _ _ (ne b m),kk b m];exact a5⟩⟩
  refine AT (q nL oL s₂ (.ref a::vs) al gF (.cons (.ref _) b1)) (fun zz zz q=>q) fun ev s' z=>Ld z fun e e1 z=>Zc7 z fun σ' h₁ dead tt ln fy k2 c2=>?_;refine⟨e,e1,ρ,σ₂,s₂,oL,σ',h₁,dead,tt,a4,(t.trans a6).toF,by rw[hL];exact b6,by rw[hL];exact ln,.inl fy,fun b m=>?_,?_,by rw[hL];exact c2⟩
  ·rw[k2 b (by rw[a8];exact .tail _ m),Av _ _ (ne b m)];exact kk b m
  ·rw[hL,k2 L (by rw[a8];exact .head _)];exact Ao _ _ _
theorem JU.def{f:AB}{fd:Aj}{body:List DD}{names:List Str}{xs:List AV}{n:Nat}{Ψ:AA→Prop}(B:Ai)(F:Ak w f fd)(R:Ah A (n+1))
  (a7:fd.body=.stmts body)
  (k:Kx A σ l→∀L,RX (A.deeper (BA fd L f)) (BA fd L f) l (Ff body (BA fd L f)) (B4 names xs) σ Ψ)
  (a8:∀vs:List Value,vs.length=names.length→HK fd ⟨vs,[]⟩=pure (names.zip vs))(c1:xs.length=names.length)(ok:IU fd names=true):
  JU A (.ref f) xs l σ Ψ:=fun s vs al g r=>by
 obtain⟨c4,a6,b3,e0,b2,hk⟩:=IU.p ok;refine B2 (F.obj B g.base) fun o ho hd hc=>?_;refine EY B.T fun p loose mg mb T=>?_;have a5:vs.length=names.length:=by rw[←r.length,c1]
 have a0:∀x∈fd.scope.names,x.2≠.cell:=fun x hx=>by have:=Fe.mp a6 x hx;simpa using this
 have a2:oc (BA fd s.heap.objs.size f)=[]:=by
  unfold oc;rw[hG.mpr];rfl;intro p hp;simp only[beq_iff_eq];intro e;exact a0 _ (mem_of_lookup e) rfl
 refine KW (codeAny_call_def (fd:=fd) (body:=body) (binds:=names.zip vs) R.d ho hd (T.nolimit.keeps g.base) (TP (K:=KK w) (fun a o e=>g.base _ _ (B.K a o e)) F.code) a7 (.of_eq (a8 vs a5)) a0
  (fun x hx=>?_) (fun a4 d6 a1=>?_) e0 b2 hk)
 ·have:=Fe.mp b3 x.1 (QA hx).1;simpa using this
 ·have S:St (BA fd s.heap.objs.size f) (B4 names xs) σ a4:=by
   refine⟨g.keeps a1,⟨⟨_,d6,fun x av e zz=>?_⟩,fun c hc=>(by rw[a2]at hc;cases hc),fun x av e q=>?_,(by rw[a2];exact .nil),(by rw[a2];exact fun q=>nomatch q)⟩,g.fresh,fun c hc=>(by rw[a2]at hc;cases hc)⟩
   ·refine AI (UZ r c4 e) fun v e' r'=>?_;exact⟨v,e',r'.mono fun zz zz zz zz q zz zz=>a1 _ _ q⟩
   ·exact absurd rfl (a0 _ (mem_of_lookup q))
  have a3:s.heap.get? s.heap.objs.size=none:=GK _;have c9:=k al s.heap.objs.size;generalize e3:s.heap.objs.size=L at*;refine AT (c9 _ S) (fun zz zz q=>q.elim) fun ev s' a9=>Ld a9 fun e e1 z=>Wz z fun c2 σ₂ s₂ ob σ' h₁ dead tt b5 b6 d5 ln hH kk hz c6=>?_;subst e1;have hA:(A.deeper (BA fd L f)).frames=some (BA fd L f::l):=Ke al.fr;have hf:(BA fd L f).frame=some L:=rfl;have d4:fl (BA fd L f::l)=L::fl l:=by rw[fl,Np,hf]
  have c8:∀{Q:Unit→AQ→Prop}{E:Value→AQ→Prop},(∀h',jD (Hz h₁ (dead++fl (BA fd L f::l))) l e (.ref 47) tt h'→s'.heap.UpToSlots h'→Q Unit.unit {s' with heap:=h'})→AR (Ae pg w) (A.deeper (BA fd L f)) (leaving (BA fd L f) (.ref e)) Q E s':=by
   intro Q E q;rcases hH with fy|hh
   ·exact wpAny_leaves_onW hA hf fy q
   ·unfold leaving;refine AE (wpAny_noteFrame_againW hf hh.2.2.2 ?_);exact wpAny_landsW hh fun h' z u=>Bs z fun k1 k2 k3 k4=>q h' ⟨k1,k2,k3.2.2,k4⟩ u
  refine c8 fun h' fy u=>?_;have ta:Ar σ s σ₂ s₂:=.leave (env:=BA fd L f) (s₁:={s with heap:=a4,toks:=s.toks+(names.zip vs).length}) a1 (fun a m=>by
   rcases A7.mp m with rfl|m
   ·exact a3
   ·rw[a2]at m;cases m) rfl rfl b6
  refine AL (b5.thaw (s':={s' with heap:=h₁}) d5 ln.g ln.stp hz) fun gh th=>?_;have b1:∀b∈fl l,b≠L:=fun b m q=>by
   refine AX (al.own b m) fun e2 c5=>?_;refine AI ((g.own b _ c5).2.there) fun b0 q2 zz=>?_;rw[q,a3]at q2;exact Au q2
  have same:∀b,b∈(L::dead)++fl l↔b∈dead++fl (BA fd L f::l):=fun b=>by
   rw[d4];simp only[List.cons_append,A7,B9];constructor
   ·rintro(h|h|h)<;>simp[h]
   ·rintro(h|h|h)<;>simp[h]
  have b7:=flyingW_base (wC same) fy;refine⟨e,rfl,Cd σ' L,h₁,L::dead,tt,⟨gh,ta.trans ⟨th.evo,th.dom,th.gens,th.os⟩,ln.up.trans u,b7.1,fun d m=>?_,fun b m=>?_⟩,b7,fun b m=>?_,c6⟩
  ·rcases A7.mp m with rfl|m
   ·refine⟨fun zz=>a3,VC _ _,?_⟩;refine Me ((ln.g.own _ _ hz).2) fun es ep dd zz sl q=>?_;exact⟨_,q,fun b4=>Qt b4 fun zz zz zz r=>by dsimp only at r;exact(nomatch ((dd.symm.trans r)))⟩
   ·refine BN (ln.dead d m) fun d1 d2 d3=>?_;refine⟨fun n=>?_,?_,d3⟩
    ·cases z:s.heap.get? d with
     |none=>rfl
     |some b0=>
      refine AI (ta.evo d b0 z n) fun o2 q2 zz=>?_;have n2:=ta.dead z n;have c3:d≠(BA fd L f).locals:=fun q=>by
       have:d=L:=q;rw[this,a3]at z;exact Au z
      have:=d1 (by rw[Av _ _ c3];exact n2);exact Bf ((q2.symm.trans this))
    ·unfold Cd;split
     ·rfl
     ·exact d2
  ·rw[Gd (b1 b m),kk b m];exact al.own b m
  ·rw[Gd (b1 b m)];exact kk b m
theorem Zcx{body:List DD}{np b3 p1 p2 c2:A8}{b:Bool}{k0:Nat}{L:AB}{Ψ:AA→Prop}{Φ:CK→AW→AA→Prop}(B:Ai)(hf:env.frame=some L)(hL:env.locals=L)(hA:A.frames=some (env::l))
  (k:RX A env l (Ff body env) ρ σ Ψ)(q:∀ρ' σ',Ψ σ'→Φ (.ret (.bool b)) ρ' σ')(hx:env.kindOf "HeapError"=some .globalImplicit)(hk:env.scope.kind=.function)(hg:env.globals=Bh):
  Eg A env (.Try body [.ExceptHandler (some (.Name "HeapError" np)) none [.Return (some (.Constant (.bool b) k0 p1)) p2] b3] [] [] c2) ρ σ Φ:=fun s S=>by
 refine EY B.T fun p loose mg mb T=>?_;refine wpAny_Try_except (AT (k s S) (fun zz zz q=>q.elim) fun ev s' b7=>Ld b7 fun e e1 z=>Wz z fun a0 σ₂ s₂ ob σ' h₁ dead tt n b4 b6 ln hH kk hz c6=>?_);subst e1;have c8:∀{Q:Unit→AQ→Prop}{E:Value→AQ→Prop},(∀h',Tt (Hz h₁ (dead++fl (env::l))) (env::l) e (.ref 47) tt L h'→s'.heap.UpToSlots h'→Q Unit.unit {s' with heap:=h'})→AR (Ae pg w) A (Nh (.ref e) env) Q E s':=by
  intro Q E q;rcases hH with fy|hh
  ·exact wpAny_looks_onW hA hf fy q
  ·rw[hL]at hh;exact wpAny_noteFrame_againW hf hh.2.2.2 (q s'.heap hh (.refl _))
 refine c8 fun d1 a4 a8=>wpAny_landsW a4 fun a6 m b1=>?_;have a2:=ln.move m.1 (a8.trans b1);refine B2 n.frozen fun zz zz zz gF=>?_;refine B2 n.frozen fun d6 a7 c5 gF=>?_;obtain rfl:=An ((b6.symm.trans a7));refine AL (a2.land gF) fun a1 d3=>?_;have b5:(KK w).In a6:=fun a o e=>a1.base _ _ (B.K a o e);refine AI m.there fun oe c3 c9=>?_;refine M8 (MM w) fun nm qq bs d2 sn sub ab d4 dd d5 k1 k2 k3 k5 c4=>?_;have hC:=b5 _ _ c4;refine wpAny_handleBy_cons (codeAny_handlers_test (XY hk hx (gy (hg▸T.g.keeps a1.base) (mg_of B.K T.g (fP w)) ?_))) (by intro q;exact nomatch q);refine wpAny_excMatches_sub_self hC c3 c9 (by decide+kernel) (codeAny_handlers_suite ?_);refine lands_againW m fun b0 a3 b2=>?_;have a9:=a2.move a3.1 b2;refine AL (a9.land gF) fun a5 c1=>?_;refine AL (n.thaw (s':={s' with heap:=b0}) b6 a5 c1 hz) fun gh th=>?_;refine Pw (wpAny_Return_some (wpAny_Constant_bool ?_));exact⟨.ret (.bool b),a0,Cd σ' env.locals,.bool _,n.step gh th,b4.trans th.toF,q a0 _ c6⟩
theorem mF(B:Ai)(F:Ak w f fd)(S:St env ρ σ s.heap)
  (k:AC A env a1 args ρ σ fun xs m=>m env.locals=none→∀o,AF A (.ref f) xs (upd m env.locals (.frz o)) fun v σ'=>σ' env.locals=some (.frz o)∧Φ v (Cd σ' env.locals))(hp:CJ args=true):
  ER A (EK a1 (.ref f) [] (Df a1 (BZ args env)) []) σ s Φ:=by
 refine B2 (F.obj B S.g.base) fun o ho hd hc=>?_;refine g7 (o:=o) (fd:=fd) (GX (Er hp) ?_);refine AT (k s S) (fun vs s₁ a6=>GM a6 fun xs m a3 g t q=>⟨⟨?_,hd⟩,?_⟩) fun zz zz e=>e
 ·refine Bx F.at_ fun od a9 e=>?_;have q1:=S.g.base _ _ (B.K _ _ e);have q2:=g.base _ _ (B.K _ _ e);rw[ho]at q1;rw[q2,q1]
 ·have n:=S.step g t;refine B2 n.frozen fun oL a7 a8 gF=>?_;exact AT (q n.nL.1 oL s₁ _ gF a3) (fun v s₂ a0=>BG a0 fun av σ₂ a4 a5 a2 a0=>AL a0 fun q1 q2=>by
   refine AL (n.thaw a7 a5 a2 q1) fun gh th=>?_;exact⟨av,_,a4,gh,t.trans th,q2⟩) fun zz zz e=>e
theorem gK{id:Str}(B:Ai)(e:Cj (KK w) Bh id=some (some (.ref f)))(F:Ak w f fd)
  (k:AC A env a5 args ρ σ fun xs m=>m env.locals=none→∀o,AF A (.ref f) xs (upd m env.locals (.frz o)) fun v σ'=>σ' env.locals=some (.frz o)∧Φ v (Cd σ' env.locals))(hx:autoParam (env.kindOf id=some .globalImplicit) aR)(hk:autoParam (env.scope.kind=.function) aR)(hg:autoParam (env.globals=Bh) aR)
  (hd:autoParam ((id==("__debug__":Str))=false) aD)(hp:autoParam (CJ args=true) aR):EV A env (.Call (.Name id p) args [] a5) ρ σ Φ:=fun s S=>by
 refine TO (AT (NM (A:=A) (ρ:=ρ) (σ:=σ) (Φ:=fun v σ'=>v=AV.fix (.ref f)∧σ'=σ) B e ⟨rfl,rfl⟩ hx hk hg hd s S) (fun v s₁ a4=>BG a4 fun av m r g t a1=>AL a1 fun e1 e2=>?_) fun zz zz e=>e);subst e1 e2;obtain rfl:=VR.inv_fix r;exact AT (mF B F (S.step g t) k hp) (fun v s₂ n=>BG n fun av σ₂ a2 a3 a0 q=>⟨av,σ₂,a2,a3,t.trans a0,q⟩) fun zz zz e=>e
end
section
variable {σ σ' σ'' σ₂ τ τ' σ0:AA} {A:Ab} {env:Af} {ρ ρ':AW} {c c':HS} {L L':AY} {l:List Af}
abbrev VT(p:Int×Int):AV:=.tup [.int p.1,.int p.2]
abbrev A1(ps:List (Int×Int)):List AV:=ps.map VT
abbrev Ay(p:Nat×Nat):Int×Int:=(p.1,p.2)
abbrev B6(ps:List (Int×Int)):List Int:=(ps.map fun p=>[p.1,p.2]).flatten
abbrev Fu:AV:=.tup [.str "told",.str "trial"]
def told(c:HS)(ps:List (Nat×Nat))(r:AV):HS:=ps.foldl (fun c p=>c.join p.1 p.2 r) c
def Od(H:AB)(y:Str):Option AV:=if y="heap" then some (.ref H)else none
abbrev Cq(σ:AA)(t dx H:AB):Prop:=Dm σ t 517 dx 1 (Od H)
theorem FW:Od H "heap"=some (.ref H):=by rfl
theorem WC(ps:List (Int×Int)):((ps.map fun p=>[AV.int p.1,.int p.2]).map .tup=A1 ps)∧(ps.map fun p=>[AV.int p.1,.int p.2]).flatten=BI (B6 ps):=by
 refine⟨by rw[Bu];rfl,?_⟩
 induction ps with
 |nil=>rfl
 |cons p ps m=>
  show[AV.int p.1,.int p.2]++_=_;rw[m];rfl
theorem tx(ps:List (Int×Int)):(B6 ps).length=2*ps.length:=by
 induction ps with
 |nil=>rfl
 |cons p ps m=>
  show([p.1,p.2]++B6 ps).length=_;rw[BJ,m];simp;exact A5 yK
theorem cu(hh:A.handled=none)(hl:σ l0=some (.list (A1 ps)))(hz:ps.length≤1000)(hx:ρ "pairs"=some (.ref l0))
  (q1:∀D,σ D=none→hb.get? D=none→Φ (.ref D) (upd σ D (.list (BI (B6 ps)))))
  (m:Q9 scope env "pair" "n"=true)(n:Cf (env.kindOf "pairs")=true)(hk:env.scope.kind=.function):
  EV A env (FI "pair" "n" p1 p2 p3 p4 (.Name "pairs" px) scope q) ρ σ Φ:=by
 refine Zbz hh (Ey (AG hx ⟨_,_,rfl,hl,trivial,trivial,(ps.map fun p=>[AV.int p.1,.int p.2]),?_,?_,fun D nD nb=>?_⟩ n hk)) m ⋯ ⋯
 ·rw[(WC ps).1];exact Pk hl
 ·rw[(WC ps).2,AU,tx];exact A5 sO hz
 ·rw[(WC ps).2];exact q1 D nD nb
theorem XA{z:Expr}{p1 p2 p7 p8:A8}{k0:Nat}{i:Int}{m:Nat}{Φ:Bool→AA→Prop}(hx:ρ "n"=some (.int i))(kz:EV A env z ρ σ fun u n=>u=.int (m:Nat)∧n=σ)
  (q:Φ (not (decide (0≤i∧i<m))) σ)(hm:autoParam (XZ .Lt z=false) aR)(h1:autoParam (Cf (env.kindOf "n")=true) aR)(hk:autoParam (env.scope.kind=.function) aR):
  TR A env (.UnaryOp .Not (.Compare (.Constant (.int 0) k0 p1) [.LtE,.Lt] [.Name "n" p2,z] p7) p8) ρ σ Φ:=by
 refine Pn (gm (BB (AG hx (XQ (BO ?_)) h1 hk)) hm);by_cases h0:0≤i
 ·refine CN (decide_eq_true h0) ?_;refine kz.mono fun u n a0=>AL a0 fun e1 e2=>?_;subst e1 e2;refine NP (BO ?_);have:decide (0≤i∧i<m)=decide (i<((m:Nat):Int)):=by simp[h0]
  rw[←this];exact q
 ·refine Ba (decide_eq_false h0) ?_;have:decide (0≤i∧i<(m:Int))=false:=by simp[h0]
  rw[←this];exact q
structure SY(c:HS)(ps:List (Nat×Nat))(Mid HT:HS→Prop):Prop where
 eq:c.uab.length=c.nodes.length
 b1:c.changes.length≤1000
 b2:c.waiting.length≤1000
 b3:c.marks.length≤900
 b4:c.nodes.length≤1000
 b5:ps.length≤900
 inn:∀p∈ps,p.1<c.uab.length∧p.2<c.uab.length
 pre:∀k≤ps.length,Dw (told (Eu c) (ps.take k) Fu)
 set:∃I μ,PY I μ∧I (told (Eu c) ps Fu)∧∀c',I c'→c'.waiting=[]→Mid c'
 back:∀c',Mid c'→∃many J ms ws m,OY many J∧c'.marks=ms++[(many,ws)]∧c'.marks.length≤1000∧J m {c' with marks:=ms,backs:=c'.backs+1}∧∀c'',J 0 c''→HT (EU c'' ws)
theorem d7(c:HS)(ps:List (Nat×Nat))(p:Nat×Nat)(r:AV):told c (ps++[p]) r=(told c ps r).join p.1 p.2 r:=by
 unfold told;rw[QS];rfl
theorem oX(c:HS)(a b:Nat)(r:AV):(c.join a b r).uab.length=c.uab.length:=by
 unfold HS.join;split<;>simp
theorem fV(c:HS)(ps:List (Nat×Nat))(r:AV):(told c ps r).uab.length=c.uab.length:=by
 induction ps generalizing c with
 |nil=>rfl
 |cons p ps m=>show(told (c.join p.1 p.2 r) ps r).uab.length=_;rw[m,oX]
theorem cV{ps:List (Nat×Nat)}{n:Nat}(h:∀p∈ps,p.1<n∧p.2<n):∀i∈B6 (ps.map Ay),0≤i∧i<(n:Int):=fun i m=>by
 unfold B6 at m;rw[Bu,List.mem_flatten]at m;obtain⟨xs,a0,m⟩:=m;obtain⟨p,hp,rfl⟩:=BD.mp a0;obtain⟨h1,h2⟩:=h p hp;simp only[Nw,Ay,A7,HR,or_false]at m;rcases m with rfl|rfl<;>(first|exact Am eZ h1|exact Am eZ h2)
theorem Cq.out(T:Cq σ t dx (L .hp))(nt:¬A6 c L t)(nd:¬A6 c L dx)(F:Fm σ c L σ' c' L'):Cq σ' t dx (L' .hp)∧¬A6 c' L' t∧¬A6 c' L' dx:=by
 refine AL (F.out T.1 nt) fun a1 a2=>?_;refine AL (F.out T.2 nd) fun n m=>?_;rw[F.root];exact⟨⟨a1,n⟩,a2,m⟩
theorem Cq.ext(T:Cq σ t dx H)(x:Ap σ σ'):Cq σ' t dx H:=⟨by rw[x _ (by rw[T.1];exact Ag _)];exact T.1,by rw[x _ (by rw[T.2];exact Ag _)];exact T.2⟩
def Uz(σ:AA)(A:Ab)(c:HS)(L:AY)(ps:List (Nat×Nat))(t:AB)(dx:AB)(n:AB)(Φ:AV→AA→Prop)(m:HS→Prop)(HT:HS→Prop):Prop:=∀(B:Ai)(R:Ah A 10)(P:AS σ L c)(X:SY c ps m HT)(T:Cq σ t dx (L .hp))(nt:¬A6 c L t)(nd:¬A6 c L dx)(hl:σ n=some (.list (A1 (ps.map Ay))))(nl:¬A6 c L n)(q:∀c' L' σ',m c'→AS σ' L' c'→Fm σ c L σ' c' L'→Φ .none σ'),AF A (.ref 481) [.ref t,.ref n] σ Φ
def Ze:(((AA×Ab)×HS)×((AY×(List (Nat×Nat)))×AB))×(((AB×AB)×(AV→AA→Prop))×((HS→Prop)×(HS→Prop)))→Prop:=fun t=>Uz t.1.1.1.1 t.1.1.1.2 t.1.1.2 t.1.2.1.1 t.1.2.1.2 t.1.2.2 t.2.1.1.1 t.2.1.1.2 t.2.1.2 t.2.2.1 t.2.2.2
def Hh:=zE Ze (((((fun _=>none),{}),Dy),(((fun _=>0),[]),0)),(((0,0),(fun _ _=>True)),((fun _=>True),(fun _=>True))))
def M1:=Hh.1.1.1.1
def qI:=Hh.1.1.1.2
def Gc:=Hh.1.1.2
def Oy:=Hh.1.2.1.1
def CZ:=Hh.1.2.1.2
def Mc:=Hh.1.2.2
def RJ:=Hh.2.1.1.1
def Of:=Hh.2.1.1.2
def kQ:=Hh.2.1.2
def zd:=Hh.2.2.1
def oq:=Hh.2.2.2
theorem jr:Uz M1 qI Gc Oy CZ Mc RJ Of kQ zd oq:=fun B R P X T nt nd hl nl q=>by
 have b5:=X.b5;have b4:=X.b4;refine AF.def (F:=(Ms w)) (names:=["self","pairs"]) B R rfl (fun Lf=>?_) (C9 fun zz zz=>rfl) rfl ∅
 ·refine AJ (Gl R.handled (Ey (cu (!R.handled) hl (by rw[AU];exact ln b5 rfl) () (fun D nD nb=>?_) () () ())));have P1:=P.beside (x:=.list (BI (B6 (CZ.map Ay)))) nD;have F1:Fm M1 Gc Oy _ Gc Oy:=.beside (x:=.list (BI (B6 (CZ.map Ay)))) nD;have T1:Cq _ Mc RJ (Oy .hp):=T.ext (.new (x:=.list (BI (B6 (CZ.map Ay)))) nD);have d3:=P.out nD;have hD:upd M1 D (.list (BI (B6 (CZ.map Ay)))) D=some (.list (BI (B6 (CZ.map Ay)))):=Ao _ _ _;have b7:upd M1 D (.list (BI (B6 (CZ.map Ay)))) Of=some (.list (A1 (CZ.map Ay))):=by rw[Av _ _ (by rintro rfl;exact Au ((nD.symm.trans hl)))];exact hl
  generalize upd M1 D (.list (BI (B6 (CZ.map Ay))))=σ1 at*;refine⟨_,_,rfl,hD,trivial,trivial,(B6 (CZ.map Ay)).length,fun i ρ' σ'=>i≤(B6 (CZ.map Ay)).length∧σ'=σ1∧ρ' "self"=some (.ref Mc)∧ρ' "pairs"=some (.ref Of),⟨!Bc _,rfl,by rfl,by rfl⟩,?_⟩;rintro i ρ' σ' ⟨hi,rfl,r1,r2⟩;refine⟨hi,(BI (B6 (CZ.map Ay)))[i]?,⟨_,hD,rfl⟩,?_⟩;cases hq:(BI (B6 (CZ.map Ay)))[i]? with
  |some x=>
   obtain⟨n,hn,rfl⟩:∃n,(B6 (CZ.map Ay))[i]? =some n∧AV.int n=x:=by
    rw[CH]at hq;cases hz:(B6 (CZ.map Ay))[i]? with
    |none=>rw[hz]at hq;cases hq
    |some n=>rw[hz]at hq;exact⟨n,rfl,An hq⟩
   have a1:=(BX.mp hn).1;have hr:=cV (n:=Gc.nodes.length) (by rw[←X.eq];exact X.inn) n (C6 hn);refine A2 (AJ (CM (XA (m:=Gc.nodes.length) As (Cy B (by rw[AN ⋯];exact r1) T1 (FX w) FW P1.iH () (Ov w) (MH w) (AC.nil (Op B (R.up rfl) P1 (!b4) ⟨rfl,rfl⟩))) ?_)));rw[decide_eq_true hr];refine Ba Im ?_;exact Ax (Ax ⟨!a1,rfl,by rw[AN ⋯];exact r1,by rw[AN ⋯];exact r2⟩)
  |none=>
   refine AJ (Be (Cy B r1 T1 (FX w) FW P1.iH () (cU w) (UR w) (AC.nil (Y3 B (R.up rfl) P1 X.b1 X.b2 (by have:=X.b3;exact ln this rfl) fun L2 d6 P2 F2=>?_))));refine BN (T1.out nt nd F2) fun T2 c6 a9=>?_;refine AL (F2.out b7 nl) fun a4 c4=>?_;have c3:=F1.trans F2;refine AJ (Gl R.handled (Ey (AG r2 ⟨_,_,rfl,a4,trivial,trivial,CZ.length,fun i ρ' σ'=>i≤CZ.length∧ρ' "self"=some (.ref Mc)∧∃L',AS σ' L' (told (Eu Gc) (CZ.take i) Fu)∧Fm M1 Gc Oy σ' (told (Eu Gc) (CZ.take i) Fu) L'∧
    Cq σ' Mc RJ (L' .hp)∧¬A6 (told (Eu Gc) (CZ.take i) Fu) L' Mc∧¬A6 (told (Eu Gc) (CZ.take i) Fu) L' RJ∧σ' Of=some (.list (A1 (CZ.map Ay)))∧¬A6 (told (Eu Gc) (CZ.take i) Fu) L' Of,⟨!Bc _,r1,L2,P2,c3,T2,c6,a9,a4,c4⟩,?_⟩)))
   rintro i d5 d4 ⟨a2,a0,L3,P3,F3,T3,a7,a8,a3,d1⟩;refine⟨a2,(A1 (CZ.map Ay))[i]?,⟨_,a3,rfl⟩,?_⟩;have S3:=X.pre i a2;cases hq:(A1 (CZ.map Ay))[i]? with
   |some x=>
    obtain⟨p,hp,rfl⟩:∃p:Nat×Nat,CZ[i]? =some p∧VT (Ay p)=x:=by
     rw[CH,CH]at hq;cases hz:CZ[i]? with
     |none=>rw[hz]at hq;cases hq
     |some n=>rw[hz]at hq;exact⟨n,rfl,An hq⟩
    have a1:=(BX.mp hp).1;refine AL (X.inn p (C6 hp)) fun ha c8=>?_;refine Ex R.handled (.tup _) rfl (BY (A2 (BY (A2 (Da ?_)))));refine AJ (Be (Cy B (by rw[AN ⋯,AN ⋯];exact a0) T3 (FX w) FW P3.iH () (fX w) (Ws w) (AC.cons (AG (by rw[AN ⋯];exact As) (BW (AG As (Bt (BW (DB (DB ⟨!ld rfl,?_⟩))))))))));refine bj B (R.up rfl) P3 S3 (a:=p.1) (b:=p.2) (by rw[fV];exact ha) (by rw[fV];exact c8) fun L4 e0 v P4 F4=>Ax ?_;have ht:CZ.take (i+1)=CZ.take i++[p]:=by rw[Gy,hp];rfl
    rw[show(told (Eu Gc) (CZ.take i) Fu).join p.1 p.2 Fu=told (Eu Gc) (CZ.take (i+1)) Fu by rw[ht,d7]]at*;refine BN (T3.out a7 a8 F4) fun T4 c2 d2=>?_;refine AL (F4.out a3 d1) fun b0 a5=>?_;exact⟨!a1,by rw[AN ⋯,AN ⋯];exact a0,L4,P4,F3.trans F4,T4,c2,d2,b0,a5⟩
   |none=>
    have c1:CZ.length≤i:=by
     have:=GV.mp hq;simpa using this
    rw[Ig c1]at*;refine Ec X.set fun I μ Go hI hm=>?_;refine AJ (Be (Cy B a0 T3 (FX w) FW P3.iH () (Qe w) (Pe w) (AC.nil (SA B (R.up rfl) Go P3 hI fun c5 L5 c9 b6 a6 P5 F5=>?_))));exact Ax (q c5 L5 c9 (hm c5 b6 a6) P5 (F3.trans F5))
theorem ft{σ A c L ps t dx n Φ m HT}:Uz σ A c L ps t dx n Φ m HT:=@zF _ Ze _ @jr ((((σ,A),c),((L,ps),t)),(((dx,n),Φ),(m,HT)))
theorem Zai(B:Ai)(R:Ah A 10)(P:AS σ L c)(Go:PY I μ)(hI:I c)
  (q:∀t dx c' L' σ',I c'→c'.waiting=[]→AS σ' L' c'→Fm σ c L σ' c' L'→Cq σ' t dx (L' .hp)→¬A6 c' L' t→¬A6 c' L' dx→σ t=none→σ dx=none→Φ (.ref t) σ'):AF A (.ref 517) [.ref (L .hp)] σ Φ:=by
 refine Sy B (lF w) R fun A' R' xx dx n1 n n2 n ne=>?_;have O:=(B0.nil σ).inst (C:=517) n1 n2 ne;have P0:=P.ext O.ext;have f1:¬A6 c L xx:=P.out n1;have f2:¬A6 c L dx:=P.out n2;generalize upd (upd σ dx (.ns 0 fun n=>none)) xx (.inst 517 dx)=σ1 at*;refine Du.def (F:=(xO w)) (names:=["self","heap"]) B R' rfl (fun Lf=>?_) (C9 fun n n=>rfl) rfl ∅
 ·refine AJ (BR (AG () (NC (l1:=[]) (C:=517) (xx:=xx) B O (!Dg) () (sx w) (!ld rfl) fun m O2=>?_)));have P2:=P.ext O2.ext;have F2:Fm σ c L m c L:=O2.ext.fm;have T2:Cq m xx dx (L .hp):=⟨O2.get (by simp),O2.get (.head _)⟩;refine AJ (Be (Cy B () T2 (FX w) FW P2.iH () (Qe w) (Pe w) (AC.nil (SA B (R'.deeper _ |>.mono (!A9 _)) Go P2 hI fun c3 L3 a4 a1 a0 P3 F3=>Ax ⟨rfl,?_⟩))));refine BN (T2.out f1 f2 F3) fun T3 a2 a3=>?_;exact q xx dx c3 L3 a4 a1 a0 P3 (F2.trans F3) T3 a2 a3 n1 n2
theorem pG(B:Ai)(R:Ah A 11)(P:AS σ L c){a b:Nat}{n HT:HS→Prop}(X:SY c (ps++[(a,a),(b,b)]) n HT)(hm:∀c',n c'→By c'.uab∧c'.uab.length=c.uab.length)
  {t dx l0:AB}(T:Cq σ t dx (L .hp))(nt:¬A6 c L t)(nd:¬A6 c L dx)
  (hl:σ l0=some (.list (A1 (ps.map Ay)))){Φ:AV→AA→Prop}
  (q:∀c' a0 L' σ',n c'→HT a0→AS σ' L' a0→Fm σ c L σ' a0 L'→Φ (.bool (decide (c'.find a=c'.find b))) σ'):AF A (.ref 488) [.ref t,.ref l0,.int a,.int b] σ Φ:=by
 have b5:=X.b5;rw[BJ]at b5;have ha:=(X.inn (a,a) (by simp)).1;have a2:=(X.inn (b,b) (by simp)).1;refine AF.def (F:=(Qs w)) (names:=["self","pairs","a","b"]) B R rfl (fun Lf=>?_) (LL fun zz zz zz zz=>rfl) rfl ∅
 ·refine AJ (Be (Bq B () T () (Ro w) (Ms w) (Aa (CE (Ez B (JW w) It (Aa (AG () (KS hl (by rw[AU,AU];exact Am vj b5) fun D nD nb=>?_))))))));refine DU (BW (Bt (BW (AG () (AG () ⟨!ld rfl,Bt (BW (AG () (AG () ⟨!ld rfl,by simp,fun E nE a9=>?_⟩)))⟩)))));have hD:upd (upd σ D (.list (A1 (ps.map Ay)))) E (.list [.tup [.int a,.int a],.tup [.int b,.int b]]) D=some (.list (A1 (ps.map Ay))):=by
   rw[Av _ _ (by rintro rfl;rw[Ao]at nE;cases nE)];exact Ao _ _ _
  refine KN hD (Ao _ _ _) (by rw[AU,AU];simp;exact Am rC b5) fun K nK a5=>?_;have x1:Ap σ (upd (upd (upd σ D (.list (A1 (ps.map Ay)))) E (.list [.tup [.int a,.int a],.tup [.int b,.int b]])) K (.list (A1 (ps.map Ay)++[.tup [.int a,.int a],.tup [.int b,.int b]]))):=((Ap.new nD).trans (.new nE)).trans (.new nK);have hK:upd (upd (upd σ D (.list (A1 (ps.map Ay)))) E (.list [.tup [.int a,.int a],.tup [.int b,.int b]])) K (.list (A1 (ps.map Ay)++[.tup [.int a,.int a],.tup [.int b,.int b]])) K=some (.list (A1 ((ps++[(a,a),(b,b)]).map Ay))):=by
   rw[Ao];simp
  have fK:¬A6 c L K:=fun f=>by
   have:=((Ap.new (x:=.list (A1 (ps.map Ay))) nD).trans (.new (x:=.list [.tup [.int a,.int a],.tup [.int b,.int b]]) nE)) K (P.foot f);rw[nK]at this;exact P.foot f this.symm
  generalize upd (upd (upd σ D (.list (A1 (ps.map Ay)))) E (.list [.tup [.int a,.int a],.tup [.int b,.int b]])) K (.list (A1 (ps.map Ay)++[.tup [.int a,.int a],.tup [.int b,.int b]]))=σ1 at*;have T1:=T.ext x1;refine ft B (R.deeper _) (P.ext x1) X T1 nt nd hK fK fun c2 L2 a8 m2 P2 F2=>?_;refine BN (T1.out nt nd F2) fun T2 a6 a7=>?_;refine AL (hm c2 m2) fun U2 l2=>?_;refine AJ (BR (Cy B () T2 (FX w) FW P2.iH () (qS w) (bV w) (BW (AG () (AG () (w4 B (R.up rfl) P2 U2 (by rw[l2];exact ha) (by rw[l2];exact a2) (A2 ?_)))))));refine J6 (X.back c2 m2) fun many J ms ws m Un e1 z1 hJ a3=>?_;refine AJ (Be (Cy B (by rw[AN ⋯];rfl) T2 (FX w) FW P2.iH () (Sh w) (Ow w) (AC.nil (Vb B (R.up rfl) P2 Un e1 z1 hJ fun c3 L3 a4 a1 P3 F3=>?_))));exact AJ (B8 (AG As (q c2 _ L3 a4 m2 (a3 c3 a1) P3 ((x1.fm.trans F2).trans F3))))
theorem Ap.fl(x:Ap σ σ')(n:∀b∈fl l,∃o,σ b=some (.frz o)):∀b∈fl l,σ' b=σ b:=fun b m=>x b (by refine AX (n b m) fun o e=>?_;rw[e];exact Ag _)
theorem Ap.back(k:Ap (upd σ D x) σ')(n:σ D=none):Ap σ (Cd σ' D):=fun a h=>by
 have:a≠D:=by rintro rfl;exact h n
 rw[Gd this,k a (by rw[Av _ _ this];exact h),Av _ _ this]
structure Mn(m:Nat)(is:List Int)(N:Nat)(i:Int):Prop where
 at_:is[N]? =some i
 bad:¬(0≤i∧i<m)
 small:i.natAbs<1000
 ok:∀j x,j<N→is[j]? =some x→0≤x∧x<m
theorem ai(B:Ai)(R:Ah A 10)(P:AS σ L c)(hn:c.nodes.length≤900)(X:Mn c.nodes.length (B6 ps) N i0)(T:Cq σ t dx (L .hp))
  (hl:σ l0=some (.list (A1 ps)))(hz:ps.length≤900)(q:∀σ',Ap σ σ'→Ψ σ'):JU A (.ref 481) [.ref t,.ref l0] l σ Ψ:=by
 refine JU.def (F:=(Ms w)) (names:=["self","pairs"]) B R rfl (fun al Lf=>?_) (C9 fun zz zz=>rfl) rfl ∅
 ·refine NK (Zbw (L:=Lf) (R.deeper _).handled rfl rfl () (Ke al.fr) al.kd al.own (Ey (cu (!R.handled) hl (!ln hz rfl) () (fun D nD nb=>?_) () () ())));have x1:Ap σ (upd σ D (.list (BI (B6 ps)))):=.new nD;have P1:=P.beside (x:=.list (BI (B6 ps))) nD;have T1:Cq _ t dx (L .hp):=T.ext x1;have hD:upd σ D (.list (BI (B6 ps))) D=some (.list (BI (B6 ps))):=Ao _ _ _;generalize upd σ D (.list (BI (B6 ps)))=σ1 at*;refine⟨_,_,rfl,hD,trivial,trivial,N,fun i ρ' σ'=>i≤N∧σ'=σ1∧ρ' "self"=some (.ref t),⟨!Bc _,rfl,by rfl⟩,?_⟩;rintro i ρ' σ' ⟨hi,rfl,r1⟩;obtain⟨n,a1⟩:∃n,(B6 ps)[i]? =some n:=by
   have:=(BX.mp X.at_).1;exact⟨_,Dq (show i<(B6 ps).length by exact AK (CD hi) this)⟩
  refine⟨hi,.int n,⟨_,hD,by rw[CH,a1];rfl⟩,A2 ?_⟩;by_cases a0:i<N
  ·refine CN a0 ?_;refine AJ (CM (XA (m:=c.nodes.length) As (Cy B (by rw[AN ⋯];exact r1) T1 (FX w) FW P1.iH () (Ov w) (MH w) (AC.nil (Op B (R.up rfl) P1 (!ln hn rfl) ⟨rfl,rfl⟩))) ?_));rw[decide_eq_true (X.ok i n a0 a1)];refine Ba Im ?_;exact Ax (Ax ⟨!a0,rfl,by rw[AN ⋯];exact r1⟩)
  ·refine ZY a0 ?_;obtain rfl:i=N:=by exact Ej hi (EM a0)
   obtain rfl:=An ((X.at_.symm.trans a1));refine⟨x1.fl al.own,gD (Zb7 (XA (m:=c.nodes.length) As (Cy B (by rw[AN ⋯];exact r1) T1 (FX w) FW P1.iH () (Ov w) (MH w) (AC.nil (Op B (R.up rfl) P1 (!ln hn rfl) ⟨rfl,rfl⟩))) ⟨?_,fun zz zz=>rfl,gD (Zc0 B (R.up rfl) As X.small ⋯ (q _ x1) () ⋯ () () ())⟩))⟩;rw[decide_eq_false X.bad];rfl
theorem Fm.ext(F:Fm σ c L σ' c L)(P:AS σ L c)(P':AS σ' L c):Ap σ σ':=fun a n=>by
 by_cases f:A6 c L a
 ·refine AI f fun s hs m=>?_;subst m;refine AX (Ee.mp hs) fun x hx=>?_;rw[P.at_ s x hx,P'.at_ s x hx]
 ·exact F.keep a n f
theorem kx(B:Ai)(R:Ah A 11)(P:AS σ L c)(hn:c.nodes.length≤900)(X:Mn c.nodes.length (B6 (ps++[(a,a),(b,b)])) N i0)(T:Cq σ t dx (L .hp))
  (hl:σ l0=some (.list (A1 ps)))(hz:ps.length≤800)(q:∀σ',Ap σ σ'→Ψ σ'):JU A (.ref 488) [.ref t,.ref l0,.int a,.int b] l σ Ψ:=by
 refine JU.def (F:=(Qs w)) (names:=["self","pairs","a","b"]) B R rfl (fun n Lf=>?_) (LL fun zz zz zz zz=>rfl) rfl ∅
 ·refine NK (Sv (L:=Lf) B () T () (Ro w) (Ms w) rfl rfl () (Ke n.fr) n.kd n.own
   (Aa (CE (Ez B (JW w) It (Aa (AG () (KS hl (by rw[AU];exact A5 lX hz) fun D nD nb=>?_)))))) () ⋯ () () () ())
  refine DU (BW (Bt (BW (AG () (AG () ⟨!ld rfl,Bt (BW (AG () (AG () ⟨!ld rfl,by simp,fun E nE a1=>?_⟩)))⟩)))));have hD:upd (upd σ D (.list (A1 ps))) E (.list [.tup [.int a,.int a],.tup [.int b,.int b]]) D=some (.list (A1 ps)):=by
   rw[Av _ _ (by rintro rfl;rw[Ao]at nE;cases nE)];exact Ao _ _ _
  refine KN hD (Ao _ _ _) (by rw[AU];simp;exact ln hz rfl) fun K nK a0=>?_;have m:Ap σ (upd (upd (upd σ D (.list (A1 ps))) E (.list [.tup [.int a,.int a],.tup [.int b,.int b]])) K (.list (A1 ps++[.tup [.int a,.int a],.tup [.int b,.int b]]))):=((Ap.new nD).trans (.new nE)).trans (.new nK);have hK:upd (upd (upd σ D (.list (A1 ps))) E (.list [.tup [.int a,.int a],.tup [.int b,.int b]])) K (.list (A1 ps++[.tup [.int a,.int a],.tup [.int b,.int b]])) K=some (.list (A1 (ps++[(a,a),(b,b)]))):=by
   rw[Ao];simp
  generalize upd (upd (upd σ D (.list (A1 ps))) E (.list [.tup [.int a,.int a],.tup [.int b,.int b]])) K (.list (A1 ps++[.tup [.int a,.int a],.tup [.int b,.int b]]))=σ1 at*;have P1:=P.ext m;refine⟨m.fl n.own,fun nL o=>?_⟩;have x2:Ap σ1 (upd σ1 Lf (.frz o)):=.new nL;refine ai B (R.deeper _) (P1.ext x2) hn X ((T.ext m).ext x2) (by rw[x2 K (by rw[hK];exact Ag _)];exact hK) (by simp;exact ln hz rfl) fun σ' x3=>q _ (m.trans (x3.back nL))
theorem sW(B:Ai)(R:Ah A 11)(P:AS σ L c)(U:By c.uab)(hn:c.nodes.length≤900)(X:Mn c.nodes.length (B6 ps) N i0)(T:Cq σ t dx (L .hp))
  (hl:σ l0=some (.list (A1 ps)))(hz:ps.length≤900)(q:∀σ',Ap σ σ'→Ψ σ'):JU A (.ref 493) [.ref t,.ref l0] l σ Ψ:=by
 refine JU.def (F:=(QW w)) (names:=["self","pairs"]) B R rfl (fun al Lf=>?_) (C9 fun zz zz=>rfl) rfl ∅
 ·refine RX.seq (NI (names:=["classes","lots"]) R.handled () (Bt (BW (Cy B () T (FX w) FW P.iH () (SX w) (Os w) (AC.nil (Sf B (R.up rfl) P U fun D a0 hD nD P1 F1=>?_))))));refine S5 B (Vu w) fun E nE a1 zz=>⟨!ld rfl,_,.tup _,rfl,BY (GN () (BY (GN () (Da ?_))))⟩;have x1:=F1.ext P P1;have x2:Ap a0 (upd a0 E (.dictI [])):=.new nE;generalize upd a0 E (.dictI [])=σ2 at*;have n:=x1.trans x2;have P2:=P1.ext x2;refine⟨rfl,n.fl al.own,?_⟩;refine NK (Sv (L:=Lf) B (by rw[AN ⋯,AN ⋯];rfl) (T.ext n) () (Ro w) (Ms w) rfl rfl () (Ke al.fr) al.kd (fun b m=>by rw[n.fl al.own b m];exact al.own b m)
   (Aa (AG (by rw[AN ⋯,AN ⋯];rfl) ⟨fun zz zz=>rfl,fun nL o=>?_⟩)) () ⋯ () () () ())
  have x3:Ap σ2 (upd σ2 Lf (.frz o)):=.new nL;exact ai B (R.deeper _) (P2.ext x3) hn X ((T.ext n).ext x3) (by rw[(n.trans x3) _ (by rw[hl];exact Ag _)];exact hl) hz fun σ' x4=>q _ (n.trans (x4.back nL))
end
section
variable {σ σ':AA} {s s' s'':AQ} {h h':A3} {A:Ab} {E:Value→AQ→Prop}
def GY(n:Nat):KasT α→Option α
 |.ret a=>some a
 |.ask i j k=>if i<n∧j<n∧i≠j then GY n (k (decide (i<j)))else none
theorem aG{α:Type}{n:Nat}{m:Nat→Nat→(Bool→AQ→Prop)→AQ→Prop}{Q:α→AQ→Prop}{s:AQ}(hc:∀i j C,i<n→j<n→i≠j→C (decide (i<j)) s→m i j C s):
  ∀(t:KasT α)(a:α),GY n t=some a→Q a s→t.kasWp m Q s
 |.ret b,a,e,q=>by obtain rfl:=An e;exact q
 |.ask i j k,a,e,q=>by
  unfold GY at e;split at e
  ·rename_i c;exact hc i j _ c.1 c.2.1 c.2.2 (aG hc (k (decide (i<j))) a e q)
  ·exact Au e
theorem Vx:∀(t:KasT α)(a:α),GY n t=some a→GY n (t.bind f)=GY n (f a)
 |.ret b,a,e=>by obtain rfl:=An e;rfl
 |.ask i j k,a,e=>by
  unfold GY at e;split at e
  ·rename_i c;show(if i<n∧j<n∧i≠j then GY n ((k (decide (i<j))).bind f)else none)=_;rw[if_pos c];exact Vx _ _ e
  ·exact Au e
theorem cM(h:m<n):(QT (B3 n)).getD m 0=m:=by simp[Array.getD,h]
theorem sR:∀(f m:Nat),1≤m→m+f=n→GY n (kas_asc (QT (B3 n)) f m)=some n:=by
 intro f
 induction f with
 |zero=>
  intro m _ e;show some m=some n;rw[←e];rfl
 |succ f a0=>
  intro m h1 e;show(if _<n∧_<n∧_≠_ then GY n (if decide (_<_)=true then KasT.ret m else kas_asc _ f (m+1))else none)=_;rw[cM (!BS wA e),cM (!sy e),if_pos (!tW h1 e),decide_eq_false (!vW),if_neg (by simp)];exact a0 (m+1) (!Cu _) (!BS kG e)
theorem pI(h:2≤n):GY n (kas_sort n)=some (QT (B3 n)):=by
 have a:GY n (kas_count n (QT (B3 n)))=some (n,QT (B3 n)):=by
  unfold kas_count;rw[Vx _ n (sR (n-1) 1 (!A9 _) (!sV h))];simp[GY]
 unfold kas_sort;rw[Vx _ _ a];dsimp only;rw[if_neg (EI _)];rfl
def Ge(h:A3)(vs:List Value)(ks:List Int):Prop:=vs.length=ks.length∧∀(i:Nat)(v:Value)(k:Int),vs[i]? =some v→ks[i]? =some k→∃(a:AB)(o:C0)(xs:Array Value)(n:Nat)(t:Tok),v=.ref a∧h.get? a=some o∧o.cls=.type "tuple"∧o.data=.seq xs n∧xs[0]? =some (.int k t)
theorem Ge.tups:∀{ks:List Int},Ge h vs ks→∃fs,KatTups h vs fs∧fs.length=vs.length∧∀f∈fs,∃k t,f=.int k t:=by
 induction vs with
 |nil=>exact fun zz=>⟨[],trivial,rfl,fun zz h=>nomatch h⟩
 |cons v vs ih=>
  intro ks e;obtain⟨hl,e⟩:=e;cases ks with
  |nil=>cases hl
  |cons k ks=>
   refine J6 (e 0 v k rfl rfl) fun a o xs n t m ho hc hd hx=>?_;subst m;refine B2 (ih (ks:=ks) ⟨XT hl,fun i v' k' a1 a2=>e (i+1) v' k' a1 a2⟩) fun fs h1 h2 h3=>?_;exact⟨.int k t::fs,.cons ho hc hd hx h1,congrArg (· +1) h2,List.forall_mem_cons.mpr ⟨⟨k,t,rfl⟩,h3⟩⟩
theorem Ge.ask(T:Ge s.heap vs ks)(hp:ks.Pairwise (· <·))(hb:b=true)(hi:i<vs.length)(hj:j<vs.length)(a2:i≠j)(q:C (decide (i<j)) s):
  kas_ask pg w A (tuples' b) vs i j C s:=by
 subst hb;have m:=T.1;refine J6 (T.2 i _ _ (Dq hi) (Dq (!BS bv hi m))) fun a o xs n t e1 ho hc hd hx=>?_;refine J6 (T.2 j _ _ (Dq hj) (Dq (!BS bv hj m))) fun a' o' a1 n' t' a5 a4 a7 a6 a0=>?_;have lt:ks[i]'(!AK hi (Ac m))<ks[j]'(!AK hj (Ac m))↔i<j:=by
  constructor
  ·intro q1;by_cases h1:i<j
   ·exact h1
   ·have:=QK.mp hp j i (!AK hj (Ac m)) (!AK hi (Ac m)) (!Am rt a2 h1);exact vN hi hj m q1 this
  ·intro h1;exact QK.mp hp i j (!AK hi (Ac m)) (!AK hj (Ac m)) h1
 have ne:ks[i]'(!AK hi (Ac m))≠ks[j]'(!AK hj (Ac m)):=by
  rcases Nat.lt_or_gt_of_ne a2 with h1|h1
  ·have:=lt.mpr h1;exact yC hi m hj this
  ·have:=QK.mp hp j i (!AK hj (Ac m)) (!AK hi (Ac m)) h1;exact zP hi m hj this
 unfold kas_ask;rw[show vs.getD i Lu=vs[i] by simp[hi],show vs.getD j Lu=vs[j] by simp[hj],e1,a5];refine kat_lt ho hd a4 a6 ?_;obtain⟨r,hr⟩:∃r,xs.toList=.int (ks[i]'(!AK hi (Ac m))) t::r:=by
  rw[←Dp]at hx
  match hz:xs.toList with
  |[]=>rw[hz]at hx;cases hx
  |z::r=>rw[hz]at hx;cases hx;exact⟨r,rfl⟩
 obtain⟨r',a3⟩:∃r,a1.toList=.int (ks[j]'(!AK hj (Ac m))) t'::r:=by
  rw[←Dp]at a0
  match hz:a1.toList with
  |[]=>rw[hz]at a0;cases a0
  |z::r=>rw[hz]at a0;cases a0;exact⟨r,rfl⟩
 rw[hr,a3,Xi];refine kat_cons (wpAny_eqBool_int ?_);rw[beq_eq_false_iff_ne.mpr ne];refine kat_no ?_;refine oneLt_int ?_;rw[show decide (ks[i]'(!AK hi (Ac m))<ks[j]'(!AK hj (Ac m)))=decide (i<j)from decide_eq_decide.mpr lt];exact q
theorem Ge.keep(T:Ge h vs ks)(k:∀b o,h.get? b=some o→o.cls=.type "tuple"→h'.get? b=some o):Ge h' vs ks:=
 ⟨T.1,fun i v x a1 a2=>by refine EY (T.2 i v x a1 a2) fun a o xs n m=>IG m fun t e ho hc r=>?_;exact⟨a,o,xs,n,t,e,k a o ho hc,hc,r⟩⟩
set_option backward.match.sparseCases true in
theorem yh(ho:s.heap.get? a=some (Bn "list" vs.toArray n))
  (T:Ge s.heap vs ks)(hp:ks.Pairwise (· <·))(a5:vs.length<64)(h:P (.done (.ret .none)) {s with heap:=Tc s.heap a vs vs.toArray}):
  AR (Ae pg w) A (Builtin.«list.sort» ⟨[.ref a],[]⟩) P E s:=by
 rw[list_sort_plain];have ha:a<s.heap.objs.size:=DJ ho;have a8:=CG;refine AE (listItems_at ho rfl ?_);refine AE (listUpdate_at ho rfl ?_ (by rw[List.size_toArray];exact AK (Ct a5) (AK (ld rfl) (Ac a8.symm))) (Bc _));obtain⟨e1,b1⟩:∃e1,(s.heap.update a (DV fun zz=>#[])).get? a=some (Bn "list" #[] e1):=⟨_,Td ho (fun zz=>#[])⟩;refine AE (seqEpoch_at b1 rfl ?_);refine AE (wpAny_newTuple ?_ (by show vs.length≤_;exact AK (Ct a5) (AK (ld rfl) (Ac a8.symm))));refine AE (i5 ?_ (Bc _));refine CF ?_;have b0:(((s.heap.update a (DV fun zz=>#[])).push (Bn "tuple" vs.toArray 0)).push (Bn "list" #[] 0)).get? a=some (Bn "list" #[] e1):=by
  rw[QU _ _ _ (by rw[Xu,QH];exact Bm (Hx ha)),QU _ _ _ (by rw[QH];exact Bm ha)];exact b1
 have T6:Ge (((s.heap.update a (DV fun zz=>#[])).push (Bn "tuple" vs.toArray 0)).push (Bn "list" #[] 0)) vs ks:=T.keep fun b o e c=>by
  have b2:=DJ e;have ne:b≠a:=by rintro rfl;obtain rfl:=An ((ho.symm.trans e));exact absurd c (by simp[Bn])
  rw[QU _ _ _ (by rw[Xu,QH];exact Bm (Hx b2)),QU _ _ _ (by rw[QH];exact Bm b2),Ze9 _ _ _ _ ne];exact e
 show AR (Ae pg w) A _ P E {s with heap:=((s.heap.update a (DV fun zz=>#[])).push (Bn "tuple" vs.toArray 0)).push (Bn "list" #[] 0)};dsimp only;have a6:vs.toArray.size=vs.length:=by exact rfl
 have a7:∀(m:SortSt),(arrOf m).map (·.2)=vs.toArray→failedOf m=none→AR (Ae pg w) A (do
   let a0:=(←seqEpoch a) != e1
   Builtin.List.listUpdate (.ref a) fun zz=>(arrOf m).map (·.2)
   if let some e:=failedOf m then rule "list.sort.comparison-raised";throw e
   if a0 then rule "list.sort.modified";raiseError "ValueError" "list modified during sort"
   ret .none) P E {s with heap:=((s.heap.update a (DV fun zz=>#[])).push (Bn "tuple" vs.toArray 0)).push (Bn "list" #[] 0)}:=fun m e2 e3=>by
  refine AE (seqEpoch_at b0 rfl ?_);refine AE (listUpdate_at b0 rfl ?_ (Bc _) (by rw[e2,a6];exact GU (AK (Ct a5) (AK (ld rfl) (Ac a8.symm)))));rw[e3,e2];simp only[bne_self_eq_false,HN,if_false];exact Ad h
 by_cases h2:vs.toArray.size<2
 ·rw[if_pos h2,if_pos h2];refine AE (Ad ?_);rw[StateT.run_pure];refine AE (Ad ?_);dsimp only;refine a7 _ ?_ rfl;show((vs.toArray.zip vs.toArray).map (·.2))=vs.toArray;simp[List.map_snd_zip]
 ·rw[if_neg h2,if_neg h2];refine B2 T6.tups fun fs t1 t2 t3=>?_;refine AE (kat_kind (s:={s with heap:=((s.heap.update a (DV fun zz=>#[])).push (Bn "tuple" vs.toArray 0)).push (Bn "list" #[] 0)}) t1 (T:=.type "int") (!AK (AK (AK (ld rfl) (EM h2)) (Ac a6)) (Ac t2.symm)) (fun v hv=>?_) ⋯ ?_)
  ·refine Bx (t3 v hv) fun k t a9=>?_;subst a9;exact .of_pure rfl
  ·refine AE (AT (kat_run (E:=E) (vs:=vs) (ks:=vs) (Q:=fun m s'=>s'={s with heap:=((s.heap.update a (DV fun zz=>#[])).push (Bn "tuple" vs.toArray 0)).push (Bn "list" #[] 0)}∧(arrOf m).map (·.2)=vs.toArray∧failedOf m=none)
    (G:=fun p s'=>p=QT (B3 vs.length)∧s'={s with heap:=((s.heap.update a (DV fun zz=>#[])).push (Bn "tuple" vs.toArray 0)).push (Bn "list" #[] 0)}) rfl (!AK (EM h2) (Ac a6)) a5 (fun p' m s' a1 a2 a3 a4=>⟨a4.2,?_,a3⟩) ?_) (fun r s' q=>?_) fun zz zz e=>e)
   ·rw[kat_snds rfl a2,a4.1];apply congrArg;apply Tm;intro i;by_cases hi:i<vs.length
    ·simp[hi]
    ·simp[hi]
   ·exact aG (n:=vs.length) (fun i j C hi hj b4 q=>Ge.ask (s:={s with heap:=((s.heap.update a (DV fun zz=>#[])).push (Bn "tuple" vs.toArray 0)).push (Bn "list" #[] 0)}) T6 hp ⋯ hi hj b4 q) _ _ (pI (!AK (EM h2) (Ac a6))) ⟨rfl,rfl⟩
   ·obtain⟨⟨⟩,m⟩:=r;refine BN q fun b3 q2 q3=>?_;subst b3;exact a7 m q2 q3
theorem Ge.of{m:List (List AV)}(r:VRs h (m.map .tup) vs)(hl:m.length=ks.length)(hk:∀(i:Nat)(ts:List AV)(k:Int),m[i]? =some ts→ks[i]? =some k→ts.head? =some (.int k)):Ge h vs ks:=by
 refine⟨by rw[←r.length,AU,hl],fun i v k a1 a2=>?_⟩;have hi:i<m.length:=by rw[hl];exact(BX.mp a2).1
 have e1:(m.map AV.tup)[i]? =some (.tup m[i]):=by rw[CH,Dq hi];rfl
 refine AI (r.get' e1) fun v' e2 rv=>?_;obtain rfl:=An ((a1.symm.trans e2));have h0:=hk i _ k (Dq hi) a2;refine Ja rv fun a items n et rs=>?_;cases hq:m[i]with
 |nil=>rw[hq]at h0;cases h0
 |cons x xs=>
  rw[hq]at h0 rs;obtain rfl:=An h0;refine AI (rs.get' (i:=0) rfl) fun v0 e3 r0=>?_;refine AX r0.inv_int fun t a0=>?_;subst a0;exact⟨a,_,items,n,t,rfl,et,rfl,rfl,by rw[←Dp];exact e3⟩
theorem Zbn{a0:List (List AV)}{ks:List Int}(e:σ l=some (.list (a0.map .tup)))(hl:a0.length=ks.length)(hk:∀(i:Nat)(ts:List AV)(k:Int),a0[i]? =some ts→ks[i]? =some k→ts.head? =some (.int k))
  (hp:ks.Pairwise (· <·))(a2:a0.length<64)(q:∀D,σ D=none→hb.get? D=none→Φ (.ref D) (upd σ D (.list (a0.map .tup)))):AF A (.builtin "sorted") [.ref l] σ Φ:=fun s vs g r=>by
 refine Jf r ?_;refine Ci ((g.own _ _ e).2) fun items n o qs=>?_;have T:Ge s.heap items.toList ks:=.of qs hl hk;have a1:items.toList.length=a0.length:=by rw[←qs.length,AU]
 have a6:=CG;refine Zdz kind_sorted plain_sorted entry_sorted (args_sorted1 _) ?_;unfold Builtin.«sorted»;refine AE (m:=checkCount "sorted" 1 1 _) (Ad ?_);refine AE (collect_list (vs:=items.toList) ⟨_,o,rfl,n,by simp⟩ ?_ (!AK (AK (Ac a1) (Ct a2)) (AK (ld rfl) (Ac a6.symm))));refine AE (i5 ?_ (!AK (AK (Ac a1) (Ct a2)) (AK (ld rfl) (Ac a6.symm))));have a3:((s.heap.push (Bn "list" #[] 0)).update s.heap.objs.size (DV (· ++items.toList.toArray))).objs.size=s.heap.objs.size+1:=by
  rw[QH,Xu]
 have a5:(((s.heap.push (Bn "list" #[] 0)).update s.heap.objs.size (DV (· ++items.toList.toArray))).push (Bn "list" items.toList.toArray 0)).get? (s.heap.objs.size+1)=some (Bn "list" items.toList.toArray 0):=by
  rw[←a3];exact Bz _ rfl
 show AR _ _ _ _ _ {s with heap:=((s.heap.push (Bn "list" #[] 0)).update s.heap.objs.size (DV (· ++items.toList.toArray))).push (Bn "list" items.toList.toArray 0)};rw[a3];have kp:∀b o,s.heap.get? b=some o→(((s.heap.push (Bn "list" #[] 0)).update s.heap.objs.size (DV (· ++items.toList.toArray))).push (Bn "list" items.toList.toArray 0)).get? b=some o:=fun b o q=>by
  have a4:b<s.heap.objs.size:=DJ q;rw[QU _ _ _ (by rw[a3];exact Bm (Hx a4)),Ze9 _ _ _ _ (Bm a4),QU _ _ _ (Bm a4)];exact q
 refine AE (CF (HM slot_list_sort ⟨_,a5,rfl⟩ entry_list_sort
  (yh (s:={s with heap:=((s.heap.push (Bn "list" #[] 0)).update s.heap.objs.size (DV (· ++items.toList.toArray))).push (Bn "list" items.toList.toArray 0)}) a5 (T.keep fun b o q zz=>kp b o q) hp (!AK (CD (Ac a1)) a2) ⟨_,rfl,?_⟩) (args_list_sort _)))
 refine Fw (ZP (h:=s.heap) (vs:=items.toList) (out:=items.toList.toArray)) fun k m eo=>?_;exact Ad ⟨_,rfl,S8 (tk:=s.toks) g k (Ie (Gv _)) eo (qs.mono fun a o items n q zz zz=>k a o q) q⟩
abbrev Gj(f:Nat→Nat)(g:List (Nat×List Nat))(c:Nat):List (Nat×List Nat):=Aw g (f c) ((AH g (f c)).getD []++[c])
def CP(f:Nat→Nat)(cs:List Nat):List (Nat×List Nat):=cs.foldl (Gj f) []
def J1(g:List (Nat×List Nat))(ks:List Nat):Prop:=g.map (fun p=>p.2.head?)=ks.map some
theorem Wm{K V:Type}[DecidableEq K]{k:K}{v:V}:∀{g:List (K×V)},(g.map (·.1)).Nodup→(k,v)∈g→AH g k=some v:=by
 intro g
 induction g with
 |nil=>
  intro _ m;cases m
 |cons p g n=>
  intro nd m;rw[CB,FM]at nd;rw[FT];rcases A7.mp m with h|h
  ·subst h;rw[if_pos rfl]
  ·rw[if_neg (fun e=>nd.1 (by rw[e];exact BD.mpr ⟨_,h,rfl⟩))];exact n nd.2 h
theorem LH{K V:Type}[DecidableEq K]{k:K}{v:V}:∀{g:List (K×V)},AH g k=some v→(k,v)∈g:=by
 intro g
 induction g with
 |nil=>
  intro e;exact Au e
 |cons p g m=>
  intro e;rw[FT]at e;split at e
  ·rename_i h;obtain rfl:=An e;subst h;exact .head _
  ·exact .tail _ (m e)
theorem WO{K V:Type}[DecidableEq K]{g:List (K×V)}{k:K}{l v:V}(e:AH g k=some l):Aw g k v=g.map fun p=>if p.1=k then(p.1,v)else p:=by unfold Aw;rw[e];rfl
theorem Ot{K V:Type}[DecidableEq K]{g:List (K×V)}{k:K}{v:V}(e:AH g k=none):Aw g k v=g++[(k,v)]:=by unfold Aw;rw[e];rfl
theorem MP{K V:Type}[DecidableEq K]{g:List (K×V)}{k:K}(e:AH g k=none):k∉g.map (·.1):=fun m=>by
 induction g with
 |nil=>cases m
 |cons p g n=>
  rw[FT]at e;split at e
  ·exact Bf e
  ·rename_i h;rw[CB]at m;rcases A7.mp m with q|q
   ·exact h q.symm
   ·exact n e q
theorem RV{K V:Type}[DecidableEq K]{g:List (K×V)}{k:K}{v:V}:(Aw g k v).map (·.1)=if(AH g k).isSome=true then g.map (·.1)else g.map (·.1)++[k]:=by
 unfold Aw;split
 ·rw[Bu];refine Dr fun p m=>?_;show(if p.1=k then(p.1,v)else p).1=p.1;split<;>rfl
 ·rw[Cr];rfl
theorem RG{K V:Type}[DecidableEq K]{g:List (K×V)}{k:K}{v:V}(nd:(g.map (·.1)).Nodup):((Aw g k v).map (·.1)).Nodup:=by
 rw[RV];cases e:AH g k with
 |some l=>exact nd
 |none=>exact Nm.mpr ⟨nd,by simp,fun a m b hb=>by rw[Aq.mp hb];rintro rfl;exact MP e m⟩
theorem yl(nd:(g.map (·.1)).Nodup)(f:J1 g ks)(e:AH g k=some l):J1 (Aw g k (l++[c])) ks:=by
 unfold J1 at f ⊢;rw[WO e,Bu,←f];refine Dr fun p hp=>?_;show(if p.1=k then(p.1,l++[c])else p).2.head? =p.2.head?;split
 ·rename_i h;have m:=Wm nd (show(p.1,p.2)∈g from hp);rw[h,e]at m;obtain rfl:=An m;have:p.2.head? ∈ks.map some:=by rw[←f];exact BD.mpr ⟨p,hp,rfl⟩
  refine AI (BD.mp this) fun x _ n=>?_;show(p.2++[c]).head? =_;cases hq:p.2 with
  |nil=>rw[hq]at n;cases n
  |cons y ys=>rfl
 ·rfl
theorem Yd(f:Nat→Nat):∀{cs:List Nat},cs.Pairwise (· <·)→∃ks:List Nat,((CP f cs).map (·.1)).Nodup∧J1 (CP f cs) ks∧ks.Pairwise (· <·)∧∀k∈ks,k∈cs:=fun{cs}=>by
 induction h:cs.length generalizing cs with
 |zero=>rw[jE.mp h];exact fun zz=>⟨[],.nil,rfl,.nil,by exact⋯⟩
 |succ n ih=>
 intro hp;obtain⟨m,c,rfl⟩:∃m c,cs=m++[c]:=by
  rcases Tq cs with rfl|⟨a,b,e⟩
  ·cases h
  ·exact⟨a,b,by rw[e,Ts]⟩
 have ih:=ih (cs:=m) (by simpa using h);clear h;generalize m=cs at*;refine BN (im.mp hp) fun h1 zz h2=>?_;refine IG (ih h1) fun ks a0 a1 a2 a3=>?_;have e:CP f (cs++[c])=Gj f (CP f cs) c:=by unfold CP;rw[QS];rfl
 rw[e];cases q:AH (CP f cs) (f c)with
 |some l=>
  refine⟨ks,RG a0,?_,a2,fun k hk=>by simp[a3 k hk]⟩;show J1 (Aw _ _ ((AH (CP f cs) (f c)).getD []++[c])) ks;rw[q];exact yl a0 a1 q
 |none=>
  refine⟨ks++[c],RG a0,?_,?_,fun k hk=>?_⟩
  ·show J1 (Aw _ _ ((AH (CP f cs) (f c)).getD []++[c])) _;rw[q,Ot q];unfold J1 at a1 ⊢;rw[Cr,a1,Cr];rfl
  ·exact im.mpr ⟨a2,Ze3 _ _,fun x hx y hy=>by rw[Aq.mp hy];exact h2 x (a3 x hx) c (!Dg)⟩
  ·rcases B9.mp hk with h|h
   ·simp[a3 k h]
   ·simp[Aq.mp h]
end
section
variable {σ σ' τ:AA} {A:Ab} {c c':HS} {L L':AY}
structure IK(τ σ:AA)(E:AB)(g:List (Nat×List Nat))(Y:Nat→AB):Prop where
 keep:∀a,τ a≠none→a≠E→σ a=τ a
 te:τ E≠none
 dct:σ E=some (.dictI (g.map fun p=>((p.1:Int),.ref (Y p.1))))
 nd:(g.map (·.1)).Nodup
 at_:∀p∈g,σ (Y p.1)=some (.list (nats p.2))
 inj:∀p∈g,∀r∈g,Y p.1=Y r.1→p.1=r.1
 fr:∀p∈g,τ (Y p.1)=none
theorem IK.look{E:AB}{g:List (Nat×List Nat)}{Y:Nat→AB}{k:Nat}:AH (g.map fun p=>((p.1:Int),AV.ref (Y p.1))) (k:Int)=(AH g k).map fun m=>.ref (Y k):=Qk (fun i=>AV.ref (Y i)) g k
theorem IK.old{k c:Nat}(X:IK τ σ E g Y)(e:AH g k=some l)(n:σ D=none):IK τ (upd (upd σ D (.list [])) (Y k) (.list (nats l++[.int (c:Nat)]))) E (Aw g k (l++[c])) Y:=by
 have hm:=LH e;have nE:D≠E:=by rintro rfl;exact Bf ((X.dct.symm.trans n))
 have yE:Y k≠E:=fun q=>X.te (q▸X.fr _ hm);have m:∀p∈Aw g k (l++[c]),∃r∈g,r.1=p.1∧(p.1=k→p.2=l++[c])∧(p.1≠k→r=p):=fun p hp=>by
  rw[WO e]at hp;refine AI (BD.mp hp) fun r hr a1=>?_;subst a1;by_cases h:r.1=k
  ·rw[if_pos h];exact⟨r,hr,rfl,fun zz=>rfl,fun q=>absurd h q⟩
  ·rw[if_neg h];exact⟨r,hr,rfl,fun q=>absurd q h,fun zz=>rfl⟩
 refine⟨fun a h1 h2=>?_,X.te,?_,RG X.nd,fun p hp=>?_,fun p hp r hr q=>?_,fun p hp=>?_⟩
 ·rw[Av _ _ (fun q:a=Y k=>h1 (by rw[q];exact X.fr _ hm)),Av _ _ (fun q:a=D=>h1 (by rw[←X.keep a h1 h2,q];exact n))];exact X.keep a h1 h2
 ·rw[Av _ _ (Ne.symm yE),Av _ _ (Ne.symm nE),X.dct,WO e,Bu];refine congrArg (fun x=>some (AO.dictI x)) (Dr fun p zz=>?_);show _=((((if p.1=k then(p.1,l++[c])else p).1:Nat):Int),AV.ref (Y (if p.1=k then(p.1,l++[c])else p).1));split<;>rfl
 ·refine IG (m p hp) fun r hr e1 e2 e3=>?_;by_cases h:p.1=k
  ·rw[h,Ao,e2 h];simp
  ·have:=e3 h;subst this;rw[Av _ _ (fun q=>h (X.inj _ hr _ hm q)),Av _ _ (fun q=>by have:=X.at_ _ hr;rw[q,n]at this;exact Au this)];exact X.at_ _ hr
 ·refine B2 (m p hp) fun p' a0 e1 zz=>?_;refine B2 (m r hr) fun r' a2 a3 zz=>?_;rw[←e1,←a3]at q ⊢;exact X.inj _ a0 _ a2 q
 ·refine B2 (m p hp) fun p' a0 e1 zz=>?_;rw[←e1];exact X.fr _ a0
theorem IK.new{E D:AB}{g:List (Nat×List Nat)}{Y:Nat→AB}{k c:Nat}(X:IK τ σ E g Y)(e:AH g k=none)(n:σ D=none):
  IK τ (upd (upd (upd σ D (.list [])) E (.dictI (Aw (g.map fun p=>((p.1:Int),AV.ref (Y p.1))) (k:Int) (.ref D)))) D (.list ([]++[.int (c:Nat)]))) E (Aw g k ([]++[c])) (fun j=>if j=k then D else Y j):=by
 have nE:D≠E:=by rintro rfl;exact Bf ((X.dct.symm.trans n))
 have tD:τ D=none:=by
  cases q:τ D with
  |none=>rfl
  |some v=>have:=X.keep D (by rw[q];exact Ag _) nE;rw[n,q]at this;exact Au this
 have m:∀p∈g,p.1≠k:=fun p hp q=>MP e (BD.mpr ⟨p,hp,q⟩);have yD:∀p∈g,Y p.1≠D:=fun p hp q=>by have:=X.at_ p hp;rw[q,n]at this;exact Au this
 have e':AH (g.map fun p=>((p.1:Int),AV.ref (Y p.1))) (k:Int)=none:=by rw[IK.look (E:=E),e];rfl
 rw[Ot e,Ot e'];refine⟨fun a h1 h2=>?_,X.te,?_,?_,fun p hp=>?_,fun p hp r hr q=>?_,fun p hp=>?_⟩
 ·have hD:a≠D:=by rintro rfl;exact h1 tD
  rw[Av _ _ hD,Av _ _ h2,Av _ _ hD];exact X.keep a h1 h2
 ·rw[Av _ _ (Ne.symm nE),Ao,Cr];refine congrArg (fun x=>some (AO.dictI x)) ?_;refine congr (congrArg _ (Dr fun p hp=>?_)) ?_
  ·rw[if_neg (m p hp)]
  ·show _=[((k:Int),AV.ref (if k=k then D else Y k))];rw[if_pos rfl]
 ·have:=RG (k:=k) (v:=([]++[c]:List Nat)) X.nd
  rwa [Ot e]at this
 ·rcases B9.mp hp with h|h
  ·rw[if_neg (m p h),Av _ _ (yD p h),Av _ _ (fun q:Y p.1=E=>X.te (by rw[←q];exact X.fr p h)),Av _ _ (yD p h)];exact X.at_ p h
  ·rw[Aq.mp h];rw[if_pos rfl,Ao];rfl
 ·rcases B9.mp hp with h|h<;>rcases B9.mp hr with h'|h'
  ·rw[if_neg (m p h),if_neg (m r h')]at q;exact X.inj p h r h' q
  ·rw[Aq.mp h']at q;rw[if_neg (m p h),if_pos rfl]at q;exact absurd q (yD p h)
  ·rw[Aq.mp h]at q;rw[if_neg (m r h'),if_pos rfl]at q;exact absurd q.symm (yD r h')
  ·rw[Aq.mp h,Aq.mp h']
 ·rcases B9.mp hp with h|h
  ·rw[if_neg (m p h)];exact X.fr p h
  ·rw[Aq.mp h];rw[if_pos rfl];exact tD
abbrev BU(c:HS):List Nat:=(B3 c.uab.length).filter fun a=>decide (c.uab[a]? =some a)
theorem dP(c:HS):(BU c).Pairwise (· <·):=io.filter _
theorem Qn(h:a∈BU c):a<c.uab.length:=MA.mp (Dd.mp h).1
abbrev Md(f:Nat→Nat)(cs:List Nat):List (List Nat):=((CP f cs).filter fun p=>decide (1<p.2.length)).map (·.2)
theorem aq(f:Nat→Nat)(cs:List Nat):(CP f cs).length≤cs.length:=by
 unfold CP
 suffices h:∀(cs:List Nat)(g:List (Nat×List Nat)),(cs.foldl (Gj f) g).length≤g.length+cs.length by simpa using h cs []
 intro cs
 induction cs with
 |nil=>intro g;exact A9 _
 |cons c cs m=>
  intro g;rw[MB];refine AK (m _) ?_;have:(Gj f g c).length≤g.length+1:=by
   unfold Gj Aw;split
   ·rw[AU];exact Gv _
   ·simp
  rw[Tb];exact BS vC this
theorem jy{K V:Type}[DecidableEq K]{g:List (K×V)}{k:K}{v:V}{p:K×V}(h:p∈Aw g k v):p∈g∨p=(k,v):=by
 unfold Aw at h;split at h
 ·refine AI (BD.mp h) fun r n m=>?_;subst m;split
  ·rename_i e;right;rw[e]
  ·left;exact n
 ·rcases B9.mp h with h|h
  ·exact .inl h
  ·exact .inr (Aq.mp h)
theorem fZ(f:Nat→Nat)(cs:List Nat):∀p∈CP f cs,p.2.length≤cs.length:=by
 unfold CP
 suffices h:∀(cs:List Nat)(g:List (Nat×List Nat))(m:Nat),(∀p∈g,p.2.length≤m)→∀p∈cs.foldl (Gj f) g,p.2.length≤m+cs.length by simpa using h cs [] 0 (by exact⋯)
 intro cs
 induction cs with
 |nil=>intro g m h p hp;exact h p hp
 |cons c cs n=>
  intro g m h p hp;have:=n (Gj f g c) (m+1) (fun r hr=>by
   rcases jy hr with h'|h'
   ·have:=h r h';exact GU this
   ·rw[h'];dsimp only;rw[BJ];cases hq:AH g (f c)with
    |none=>exact Cu _
    |some l=>have:=h _ (LH hq);dsimp only at this;simp;exact this) p hp
  rw[Tb];exact BS ZO this
theorem Zb4{id:String}(a2:Nr "list" name id)(a4:Nc (.builtin id)=pure (.type "method_descriptor"))
  (k:EV A env o ρ σ fun ov m=>∃l xs,ov=.ref l∧m l=some (.list xs)∧AC A env a0 args ρ m fun ys σ₂=>AF A (.builtin id) (.ref l::ys) σ₂ Φ)(hp:autoParam (CJ args=true) aR)
  (he:autoParam (A0 (.Call (.Attribute o name a1) args [] a0) env=(do
   let ov ←A0 o env
   Ck a1.atName
   let(f,first) ←CS [ov] (GT ov name pl)
   EK a0 f first (Df a0 (BZ args env)) (Hv a0 (Hw [] env)))) aR):
  EV A env (.Call (.Attribute o name a1) args [] a0) ρ σ Φ:=
 Sq Ze1 a2 a4 (k.mono fun ov m a3=>Ec a3 fun l xs e1 e2 q=>by
  subst e1;refine⟨fun s u g r=>?_,q⟩;obtain rfl:=VR.inv_ref r;refine Ci ((g.own _ _ e2).2) fun items n o zz=>?_;exact⟨⟨_,o,rfl⟩,fun a e=>by obtain rfl:=TQ e;exact⟨_,o,rfl⟩⟩) hp he
theorem VG(f:Nat→Nat)(cs:List Nat)(c:Nat):CP f (cs++[c])=Gj f (CP f cs) c:=by unfold CP;rw[QS];rfl
theorem jZ(P:AS σ L c)(F:Fm σ0 c0 L0 σ c L)(fE:¬A6 c L E)(m:σ0 E=none)(k:∀a,σ a≠none→a≠E→σ' a=σ a):AS σ' L c∧Fm σ0 c0 L0 σ' c L:=by
 refine⟨P.other fun a f=>k a (P.foot f) (by rintro rfl;exact fE f),⟨fun a n f=>?_,F.foot,F.root⟩⟩;have e:=F.keep a n f;rw[k a (by rw[e];exact n) (by rintro rfl;exact n m),e]
theorem Zae(f:J1 g ks)(hp:ks.Pairwise (· <·)):(g.map fun p=>(p.2.head?.getD 0)).Pairwise (· <·)∧∀p∈g,p.2≠[]:=by
 have e:(g.map fun p=>(p.2.head?.getD 0))=ks:=by
  have:=congrArg (Il fun o:Option Nat=>o.getD 0) f;rw[Bu,Bu]at this;rw[show ks.map ((fun o:Option Nat=>o.getD 0)∘some)=ks from QQ ks]at this;exact this
 refine⟨by rw[e];exact hp,fun p m h=>?_⟩;have:p.2.head? ∈ks.map some:=by rw[←f];exact BD.mpr ⟨p,m,rfl⟩
 rw[h]at this;refine AI (BD.mp this) fun x zz n=>?_;exact Bf n
def He(σ:AA)(v:AV):List AV:=match v with
 |.ref a=>match σ a with
  |some (.list xs)=>xs
  |_=>[]
 |_=>[]
theorem RI(e:σ a=some (.list xs)):He σ (.ref a)=xs:=by unfold He;dsimp only;rw[e]
theorem wV(B:Ai)(R:Ah A 11)(P:AS σ L c){b3 HT:HS→Prop}(X:SY c ps b3 HT)(U:By c.uab)(hm:∀c',b3 c'→By c'.uab∧c'.uab.length=c.uab.length)
  (f3:BU c≠[])(hz:c.uab.length≤60)
  (T:Cq σ t dx (L .hp))(nt:¬A6 c L t)(nd:¬A6 c L dx)
  (hl:σ l0=some (.list (A1 (ps.map Ay))))(nl:¬A6 c L l0)
  (q:∀c' a7 L' σ' D,b3 c'→HT a7→AS σ' L' a7→Fm σ c L σ' a7 L'→σ' D=some (.list ((Md c'.find (BU c)).map fun l=>.tup (nats l)))→¬A6 a7 L' D→Φ (.ref D) σ'):AF A (.ref 493) [.ref t,.ref l0] σ Φ:=by
 have a4:(BU c).length≤60:=AK (Ny _ _) (by rw[Lz];exact hz);refine AF.def (F:=(QW w)) (names:=["self","pairs"]) B R rfl (fun Lf=>?_) (C9 fun _ _=>rfl) rfl ∅
 ·refine AJ (NI (names:=["classes","lots"]) R.handled () (Bt (BW (Cy B () T (FX w) FW P.iH () (SX w) (Os w) (AC.nil (Sf B (R.up rfl) P U fun D a6 hD nD P1 F1=>?_))))));refine S5 B (Vu w) fun E nE h5 E1=>⟨!ld rfl,_,.tup _,rfl,BY (GN () (BY (GN () (Da ?_))))⟩;have x1:=F1.ext P P1;have x2:Ap a6 (upd a6 E (.dictI [])):=.new nE;have hE:upd a6 E (.dictI []) E=some (.dictI []):=Ao _ _ _;have sE:σ E=none:=by
   cases z:σ E with
   |none=>rfl
   |some v=>have:=x1 E (by rw[z];exact Ag _);rw[nE,z]at this;exact Au this
  generalize upd a6 E (.dictI [])=σ2 at*;have b4:=x1.trans x2;have P2:=P1.ext x2;have f0:σ2 D=some (.list (nats (BU c))):=by rw[x2 D (by rw[hD];exact Ag _)];exact hD
  have fD:¬A6 c L D:=P.out nD;have fE:¬A6 c L E:=P.out sE;have T2:=T.ext b4;have f2:σ2 l0=some (.list (A1 (ps.map Ay))):=by rw[b4 l0 (by rw[hl];exact Ag _)];exact hl
  refine AJ (Be (Bq B () T2 () (Ro w) (Ms w) (Aa (AG () (ft B (R.deeper _) P2 X T2 nt nd f2 nl fun c3 L3 b6 m3 P3 F3=>?_)))));refine BN (T2.out nt nd F3) fun T3 f4 f5=>?_;refine AL (F3.out f0 fD) fun a8 h4=>?_;refine AL (F3.out hE fE) fun a5 c1=>?_;refine AL (hm c3 m3) fun U3 l3=>?_;have b5:=b4.fm.trans F3;have e7:∀{σ':AA},(∀a,b6 a≠none→a≠E→σ' a=b6 a)→AS σ' L3 c3∧Fm σ c L σ' c3 L3∧Cq σ' t dx (L3 .hp)∧σ' D=some (.list (nats (BU c))):=fun{σ'} k=>by
   refine⟨P3.other fun a f=>k a (P3.foot f) (by rintro rfl;exact c1 f),⟨fun a n f=>?_,b5.foot,b5.root⟩,⟨?_,?_⟩,?_⟩
   ·have e:=b5.keep a n f;rw[k a (by rw[e];exact n) (by rintro rfl;exact n sE),e]
   ·rw[k t (by rw[T3.1];exact Ag _) (by rintro rfl;have:=T3.1;exact(nomatch (An ((a5.symm.trans this)))))];exact T3.1
   ·rw[k dx (by rw[T3.2];exact Ag _) (by rintro rfl;have:=T3.2;exact(nomatch (An ((a5.symm.trans this)))))];exact T3.2
   ·rw[k D (by rw[a8];exact Ag _) (by rintro rfl;exact(nomatch (An ((a8.symm.trans a5)))))];exact a8
  refine AJ (Gl R.handled (Ey (AG () ⟨_,_,rfl,a8,trivial,trivial,(BU c).length,fun i ρ' σ'=>i≤(BU c).length∧ρ' "self"=some (.ref t)∧ρ' "lots"=some (.ref E)∧∃Y,IK b6 σ' E (CP c3.find ((BU c).take i)) Y,
   ⟨!Bc _,by rfl,by rfl,fun _=>0,⟨fun _ _ _=>rfl,by rw[a5];exact Ag _,a5,.nil,by intro p hp;exact absurd hp (by simp[CP]),by intro p hp;exact absurd hp (by simp[CP]),by intro p hp;exact absurd hp (by simp[CP])⟩⟩,?_⟩)))
  rintro i h0 b7 ⟨hi,r1,r2,Y,X4⟩;refine Bs (e7 X4.keep) fun P4 F4 T4 e0=>?_;refine⟨hi,(nats (BU c))[i]?,⟨_,e0,rfl⟩,?_⟩;cases hq:(nats (BU c))[i]? with
  |some x=>
   obtain⟨n,hn,rfl⟩:∃n:Nat,(BU c)[i]? =some n∧AV.int n=x:=by
    rw[CH]at hq;cases hz:(BU c)[i]? with
    |none=>rw[hz]at hq;cases hq
    |some n=>rw[hz]at hq;exact⟨n,rfl,An hq⟩
   have c4:=(BX.mp hn).1;have d5:n<c3.uab.length:=by rw[l3];exact Qn (C6 hn)
   have ht:CP c3.find ((BU c).take (i+1))=Gj c3.find (CP c3.find ((BU c).take i)) n:=by rw[Gy,hn];exact VG _ _ _
   have b1:=aq c3.find ((BU c).take i);have d3:((BU c).take i).length≤60:=AK (List.length_take_le' _ _) a4;have b0:=fZ c3.find ((BU c).take i);generalize CP c3.find ((BU c).take i)=g at*;refine A2 (AJ (Be (Zb4 Fj Fk (NJ TY jA (AG (by rw[AN ⋯];exact r2) ⟨rfl,.inl ⟨_,X4.dct⟩,BW
    (Cy B (by rw[AN ⋯];exact r1) T4 (FX w) FW P4.iH () (G8 w) (Hb w) (Aa (AG As (HD B (R.up rfl) P4 U3 d5
     (DU (AC.nil ⟨!Bc _,fun D2 a3 h7=>?_⟩))))))⟩)))))
   have dE:upd b7 D2 (.list []) E=some (.dictI (g.map fun p=>((p.1:Int),.ref (Y p.1)))):=by rw[Av _ _ (by rintro rfl;exact Bf ((X4.dct.symm.trans a3)))];exact X4.dct
   have lk:=IK.look (E:=E) (g:=g) (Y:=Y) (k:=c3.find n);refine Zcn (FR w) dE E1 (by rw[AU];exact ln (AK b1 d3) rfl) (fun y hy=>?_) (fun hy=>?_)
   ·rw[lk]at hy;cases hk:AH g (c3.find n)with
    |none=>rw[hk]at hy;cases hy
    |some l=>
     rw[hk]at hy;cases hy;have hY:=X4.at_ _ (LH hk);have d2:upd b7 D2 (.list []) (Y (c3.find n))=some (.list (nats l)):=by rw[Av _ _ (by rintro e;rw[←e,hY]at a3;exact Bf a3)];exact hY
     have f1:(nats l).length≤100000:=by have:=b0 _ (LH hk);dsimp only at this;rw[AU];exact ln (AK this d3) rfl
     refine⟨_,_,rfl,d2,Aa (AG As (E7 d2 f1 ?_))⟩;refine Ax ⟨!c4,by rw[AN ⋯];exact r1,by rw[AN ⋯];exact r2,Y,?_⟩;have Z:=X4.old (c:=n) hk a3;rw[ht];unfold Gj;rw[hk];exact Z
   ·rw[lk]at hy;cases hk:AH g (c3.find n)with
    |some l=>rw[hk]at hy;cases hy
    |none=>
     have c6:upd (upd b7 D2 (.list [])) E (.dictI (Aw (g.map fun p=>((p.1:Int),AV.ref (Y p.1))) (c3.find n:Int) (.ref D2))) D2=some (.list []):=by
      rw[Av _ _ (by rintro rfl;exact Bf ((X4.dct.symm.trans a3))),Ao]
     refine⟨_,_,rfl,c6,Aa (AG As (E7 c6 (!Bc _) ?_))⟩;refine Ax ⟨!c4,by rw[AN ⋯];exact r1,by rw[AN ⋯];exact r2,fun j=>if j=c3.find n then D2 else Y j,?_⟩;have Z:=X4.new (c:=n) hk a3;rw[ht];unfold Gj;rw[hk];exact Z
  |none=>
   have e8:(BU c).length≤i:=by
    have:=GV.mp hq
    rwa [AU]at this
   rw[Ig e8]at X4;refine J6 (X.back c3 m3) fun many J ms ws m Un e1 z1 hJ d6=>?_;refine AJ (Be (Cy B r1 T4 (FX w) FW P4.iH () (Sh w) (Ow w) (AC.nil (Vb B (R.up rfl) P4 Un e1 z1 hJ fun c5 L5 a0 e9 P5 F5=>?_))));have e5:=F4.trans F5;refine AL (F5.out X4.dct c1) fun e4 d4=>?_;refine IG (Yd c3.find (dP c)) fun ks g0 g1 g2 g3=>?_;refine AL (Zae g1 g2) fun h1 h2=>?_;have b1:=aq c3.find (BU c);have b0:=fZ c3.find (BU c);have e6:CP c3.find (BU c)≠[]:=by
    obtain⟨as,b,e⟩:∃as b,BU c=as++[b]:=by
     rcases Tq (BU c)with h|⟨a,b,e⟩
     ·exact absurd h f3
     ·exact⟨a,b,by rw[e,Ts]⟩
    rw[e,VG];intro h;have:=congrArg (Il (·.1)) h;rw[Gj,RV]at this;split at this
    ·rename_i q1;cases hz:CP c3.find as with
     |nil=>rw[hz]at q1;cases q1
     |cons y ys=>rw[hz]at this;cases this
    ·cases hz:CP c3.find as with
     |nil=>rw[hz]at this;cases this
     |cons y ys=>rw[hz]at this;cases this
   have a9:∀p∈CP c3.find (BU c),Cd a0 E (Y p.1)=some (.list (nats p.2)):=fun p hp=>by
    have nf:¬A6 c3 L3 (Y p.1):=fun f=>P3.foot f (X4.fr p hp);rw[Gd (fun q:Y p.1=E=>X4.te (by rw[←q];exact X4.fr p hp))];exact(F5.out (X4.at_ p hp) nf).1
   unfold Md at q;generalize e2:CP c3.find (BU c)=g at*;refine AJ (B8 (Bl B (Mq w) MI (Aa (Pp R.handled (Zbd (AG r2 ⟨E,_,rfl,E1,by simpa using e6,e4,⟨_,_,rfl⟩,_,Zbc,by rw[AU,AU];exact ln (AK b1 a4) rfl,
    (fun v=>decide (1<(He (Cd a0 E) v).length)),(fun v=>.tup (He (Cd a0 E) v)),fun v hv C=>?_,fun v hv g9 C=>?_,fun D3 d1 h3=>?_⟩)) ()))))
   ·rw[Bu]at hv;refine AI (BD.mp hv) fun p hp c8=>?_;subst c8;have e:=a9 p hp;have hs:=b0 p hp;refine Bg (Bl B (CW w) CV (Aa (AG As (Ce e (by rw[AU];exact ln (AK hs a4) rfl) (BB (KQ (BO ⟨?_,rfl⟩)))))));show _=decide (1<(He (Cd a0 E) (.ref (Y p.1))).length);rw[RI e];exact decide_eq_decide.mpr (!A5 da)
   ·rw[Bu]at hv;refine AI (BD.mp hv) fun p hp c2=>?_;subst c2;have e:=a9 p hp;have hs:=b0 p hp;refine Ez B (I3 w) JD (Aa (AG As (LZ e (by rw[AU];exact ln (AK hs a4) rfl) ⟨?_,rfl⟩)));show _=AV.tup (He (Cd a0 E) (.ref (Y p.1)));rw[RI e]
   ·have c9:((((g.map fun p=>((p.1:Int),AV.ref (Y p.1))).map (·.2)).filter fun v=>decide (1<(He (Cd a0 E) v).length)).map fun v=>AV.tup (He (Cd a0 E) v))=((g.filter fun p=>decide (1<p.2.length)).map fun p=>nats p.2).map .tup:=by
     rw[Bu,Jl,Bu,Bu];have:g.filter ((fun v=>decide (1<(He (Cd a0 E) v).length))∘((·.2)∘fun p:Nat×List Nat=>((p.1:Int),AV.ref (Y p.1))))=g.filter fun p=>decide (1<p.2.length):=Tn fun p hp=>by
      show decide (1<(He (Cd a0 E) (.ref (Y p.1))).length)=_;rw[RI (a9 p hp),AU]
     rw[this];refine Dr fun p hp=>?_;show AV.tup (He (Cd a0 E) (.ref (Y p.1)))=_;rw[RI (a9 p (Dd.mp hp).1)];rfl
    rw[c9];refine Zbn (Ao _ _ _) (ks:=(g.filter fun p=>decide (1<p.2.length)).map fun p=>((p.2.head?.getD 0:Nat):Int)) (by rw[AU,AU]) (fun i ts k a1 a2=>?_) ?_ (by have:=Ny (fun p:Nat×List Nat=>decide (1<p.2.length)) g;rw[AU];exact ln (AK (AK (CD this) (CD b1)) (CD a4)) rfl) fun D4 b2 h6=>?_
    ·rw[CH]at a1 a2;cases hz:(g.filter fun p=>decide (1<p.2.length))[i]? with
     |none=>rw[hz]at a1;cases a1
     |some p=>
      rw[hz]at a1 a2;obtain rfl:=An a1;obtain rfl:=An a2;have:=h2 p (Dd.mp (C6 hz)).1;cases hq:p.2 with
      |nil=>exact absurd hq this
      |cons y ys=>show(nats p.2).head? =some (AV.int (p.2.head?.getD 0:Nat));rw[hq];rfl
    ·have:=(h1.sublist (YL (p:=fun p:Nat×List Nat=>decide (1<p.2.length)) |>.map _));rw[show((g.filter fun p=>decide (1<p.2.length)).map fun p=>((p.2.head?.getD 0:Nat):Int))=((g.filter fun p=>decide (1<p.2.length)).map fun p=>(p.2.head?.getD 0)).map fun(n:Nat)=>(n:Int) by rw[Bu];rfl];exact Nf.mpr (this.imp fun h=>!Am VS h)
    ·have n3:∀a,a0 a≠none→a≠E→a≠D3:=fun a h1 h2 e=>by subst e;rw[Gd h2]at d1;exact h1 d1
     have k6:∀a,a0 a≠none→a≠E→upd (upd (Cd a0 E) D3 (.list (((g.filter fun p=>decide (1<p.2.length)).map fun p=>nats p.2).map .tup))) D4 (.list (((g.filter fun p=>decide (1<p.2.length)).map fun p=>nats p.2).map .tup)) a=a0 a:=fun a h1 h2=>by
      have e3:=n3 a h1 h2;rw[Av _ _ (by rintro rfl;rw[Av _ _ e3,Gd h2]at b2;exact h1 b2),Av _ _ e3,Gd h2]
     refine AL (jZ P5 e5 d4 sE k6) fun P6 F6=>?_;refine q c3 _ L5 _ D4 m3 (d6 c5 e9) P6 F6 ?_ fun f=>?_
     ·rw[Ao,Bu,e2,Bu];rfl
     ·have h1:=P5.foot f;have h2:D4≠E:=by rintro rfl;exact d4 f
      rw[Av _ _ (n3 D4 h1 h2),Gd h2]at b2;exact h1 b2
variable {env:Af} {ρ:AW}
abbrev F0(C:AB)(p q:Int):AO:=.dictS [("cells",.ref C),("spot",.int p),("stir",.int q)]
structure Iv(σ:AA)(H C:AB)(cells:List Int)(p:Nat)(q:Int):Prop where
 h:σ H=some (F0 C p q)
 c:σ C=some (.list (BI cells))
 ok:∀x∈cells,0≤x
 sz:cells.length≤1000
 q0:0≤q
 q1:q<1021
theorem Y4:AH [(("cells":Str),AV.ref C),("spot",.int p),("stir",.int q)] "cells"=some (.ref C):=by rfl
theorem Wg:AH [(("cells":Str),AV.ref C),("spot",.int p),("stir",.int q)] "spot"=some (.int p):=by rfl
theorem eV:AH [(("cells":Str),AV.ref C),("spot",.int p),("stir",.int q)] "stir"=some (.int q):=by rfl
theorem Zaw:AO.dictS (Aw [(("cells":Str),AV.ref C),("spot",.int p),("stir",.int q)] "spot" (.int m))=F0 C m q:=by rfl
theorem sM:AO.dictS (Aw [(("cells":Str),AV.ref C),("spot",.int p),("stir",.int q)] "stir" (.int m))=F0 C p m:=by rfl
theorem LX{x k:Str}{p1 p2 p3:A8}{k0:Nat}{H C:AB}{p q:Int}{v:AV}{Φ:AV→AA→Prop}(n:ρ x=some (.ref H))(h:σ H=some (F0 C p q))(hl:AH [(("cells":Str),AV.ref C),("spot",.int p),("stir",.int q)] k=some v)(m:Φ v σ)
  (h1:autoParam (Cf (env.kindOf x)=true) aR)(h2:autoParam (env.scope.kind=.function) aR)(hd:autoParam ((x==("__debug__":Str))=false) aD):EV A env (.Subscript (.Name x p1) (.Constant (.str k) k0 p2) p3) ρ σ Φ:=
 CR (AG n (DB ⟨⟨_,_,.dictS h⟩,DK.get (co w) h hl m⟩) h1 h2 hd)
theorem gQ{x k:Str}{m p2 p3:A8}{k0:Nat}{H C:AB}{p q:Int}{v:AV}{Φ:AW→AA→Prop}(hx:ρ x=some (.ref H))(h:σ H=some (F0 C p q))
  (n:Φ ρ (upd σ H (.dictS (Aw [(("cells":Str),AV.ref C),("spot",.int p),("stir",.int q)] k v))))
  (h1:autoParam (Cf (env.kindOf x)=true) aR)(h2:autoParam (env.scope.kind=.function) aR)(hd:autoParam ((x==("__debug__":Str))=false) aD):AP A env (Fh (.Subscript (.Name x m) (.Constant (.str k) k0 p2) p3) env) v ρ σ Φ:=
 KR (AG hx (DB (DK.set (co w) h (!ld rfl) n)) h1 h2 hd)
theorem Qg{a:Int}{m:Nat}(hm:0<m):∃r:Nat,r<m∧a.fmod m=(r:Int):=by
 have n:=Zea a (show(0:Int)<m by exact A5 cv hm);have h2:=Int.fmod_lt_of_pos a (show(0:Int)<m by exact A5 cv hm);exact⟨(a.fmod m).toNat,!pF n h2,!rf n⟩
theorem WN(B:Ai)(R:Ah A 1){H C:AB}{cells:List Int}{p m:Nat}{q:Int}(X:Iv σ H C cells p q)(hm:0<m)
  (k:∀r p' q' σ',r<m→(∀a,a≠H→σ' a=σ a)→Iv σ' H C cells p' q'→Φ (.int (r:Nat)) σ'):AF A (.ref 528) [.ref H,.int m] σ Φ:=by
 have a0:C≠H:=by rintro e;have h1:=X.h;have h2:=X.c;rw[e,h1]at h2;exact(nomatch (An h2))
 have a1:((m:Nat):Int)≠0:=by exact A5 xZ hm
 refine AF.def (F:=(RW w)) (names:=["hand","many"]) B R rfl (fun Lf=>?_) (C9 fun zz zz=>rfl) rfl ∅
 ·refine AJ (BR (CE (LX () X.h Wg (BB (Jd (gQ () X.h ?_))))));rw[Zaw];have s1:∀a,a≠H→upd σ H (F0 C ((p:Int)+1) q) a=σ a:=fun a h=>Av _ _ h;have n:Iv (upd σ H (F0 C ((p:Int)+1) q)) H C cells (p+1) q:=⟨Ao _ _ _,by rw[Av _ _ a0];exact X.c,X.ok,X.sz,X.q0,X.q1⟩;generalize upd σ H (F0 C ((p:Int)+1) q)=σ1 at*;have sz:=X.sz;refine AJ (CM (Bg (LX () n.h Wg (Bl B (CW w) CV (Aa (LX () n.h Y4 (Ce n.c (by rw[AU];exact ln sz rfl) (XQ (BO ?_)))))))));rw[AU];by_cases hp:p+1≤cells.length
  ·refine CN (decide_eq_true (!Am yr hp)) ?_;refine AJ (B8 (CE (CR (LX () n.h Y4 (CE (LX () n.h Wg (BB (NL ⟨⟨_,_,.list n.c⟩,Eh n.c (x:=.int (cells[p]'(!hp))) (!A5 sC) ?_ (!Am sk sz hp) (AG () (Pq a1 ?_))⟩))))))))
   ·rw[CH,show(((p+1:Nat):Int)-1).toNat=p by exact nQ,Dq (!hp)];rfl
   ·refine AI (Qg (a:=cells[p]'(!Am xT hp)) hm) fun r hr e=>?_;rw[e];exact k r _ _ σ1 hr s1 n
  ·refine Ba (decide_eq_false (!Am oP hp)) ?_;refine Ax ?_;have q0:=X.q0;have q1:=X.q1;refine AJ (BR (CE (CE (CE (LX () n.h eV (BB (Zbf (.of_right ⋯) (BB (Jd (BB (Pq ⋯ (gQ () n.h ?_))))))))))));rw[sM];refine AI (Qg (a:=q*29+13) (m:=1021) (!CX dy)) fun r hr e=>?_;rw[show((q*29+13).fmod 1021)=(r:Int)from e];have s2:∀a,a≠H→upd σ1 H (F0 C ((p+1:Nat):Int) r) a=σ a:=fun a h=>by rw[Av _ _ h,s1 a h]
   have X2:Iv (upd σ1 H (F0 C ((p+1:Nat):Int) r)) H C cells (p+1) r:=⟨Ao _ _ _,by rw[Av _ _ a0];exact n.c,X.ok,X.sz,!A5 o0,!A5 aO hr⟩;generalize upd σ1 H (F0 C ((p+1:Nat):Int) r)=σ2 at*;refine AJ (B8 (CE (CE (LX () X2.h eV (BB (Zc9 ⋯ (!ri hr) ⋯ (AG () (Pq a1 ?_))))))));refine AI (Qg (a:=(r:Int).fdiv 3) hm) fun r2 a2 e2=>?_;rw[e2];exact k r2 _ _ σ2 a2 s2 X2
theorem WT(w:AD):Cj (KK w) Bh "_law_pick"=some (some (.ref 528)):=∅
theorem Zah(B:Ai)(R:Ah A 2)(X:Iv σ H C cells p q)(hN:σ N=some (.list ns))(hn:0<ns.length)(hz:ns.length≤1000)
  (k:∀a b p' q' σ',a<ns.length→b<ns.length→(∀a,a≠H→σ' a=σ a)→Iv σ' H C cells p' q'→Φ (.tup [.int (a:Nat),.int (b:Nat)]) σ'):AF A (.ref 535) [.ref H,.ref N] σ Φ:=by
 have a2:N≠H:=by rintro rfl;exact(nomatch (An ((X.h.symm.trans hN))))
 refine AF.def (F:=(YS w)) (names:=["hand","nodes"]) B R rfl (fun Lf=>?_) (C9 fun zz zz=>rfl) rfl ∅
 ·refine AJ (BR (Hr B (WT w) (RW w) (BW (AG () (Bl B (CW w) CV (Aa (AG () (Ce hN (!ln hz rfl) ?_))))))));refine WN B (R.deeper _) X hn fun a p1 q1 n ha s1 X1=>A2 ?_;have a0:n N=some (.list ns):=by rw[s1 N a2];exact hN
  refine AJ (B8 (Bt (BW (AG As (Hr B (WT w) (RW w) (BW (AG (by rw[AN ⋯];rfl) (Bl B (CW w) CV (Aa (AG (by rw[AN ⋯];rfl) (Ce a0 (!ln hz rfl) ?_)))))))))));exact WN B (R.deeper _) X1 hn fun b p2 q2 a1 m s2 X2=>⟨!ld rfl,k a b p2 q2 a1 ha m (fun a h=>by rw[s2 a h,s1 a h]) X2⟩
abbrev AZ(hs:List Nat)(i:Nat):Nat:=hs.getD i 0
def Co(hs:List Nat)(nd:Nd):Nd:=(nd.1,nd.2.map (AZ hs))
inductive DZ(E:Nat→Nat→Prop):List Nat→List Nat→Prop
 |nil:DZ E [] []
 |cons {x y:Nat} {xs ys:List Nat}:E x y→DZ E xs ys→DZ E (x::xs) (y::ys)
structure Kl(nodes:List Nd)(pairs:List (Nat×Nat))(E:Nat→Nat→Prop):Prop where
 refl:∀i,E i i
 symm:∀i j,E i j→E j i
 trans:∀i j k,E i j→E j k→E i k
 told:∀p∈pairs,E p.1 p.2
 cong:∀i j m n,nodes[i]? =some m→nodes[j]? =some n→m.1=n.1→DZ E m.2 n.2→E i j
structure Hd(nodes:List Nd)(pairs:List (Nat×Nat))(hs:List Nat):Prop where
 len:hs.length=nodes.length
 le:∀i,AZ hs i≤i
 idem:∀i,AZ hs (AZ hs i)=AZ hs i
 sound:∀E,Kl nodes pairs E→∀i<nodes.length,E i (AZ hs i)
def GI(hs:List Nat)(a b:Nat):List Nat:=hs.map fun z=>if z=max (AZ hs a) (AZ hs b)then min (AZ hs a) (AZ hs b)else z
theorem PZ{hs:List Nat}{i:Nat}(h:i<hs.length):hs[i]? =some (AZ hs i):=by simp[AZ,h]
theorem ZB(h:hs.length≤i):AZ hs i=0:=by simp[AZ,h]
theorem IS(h:i<hs.length):AZ (GI hs a b) i=if AZ hs i=max (AZ hs a) (AZ hs b)then min (AZ hs a) (AZ hs b)else AZ hs i:=by
 unfold AZ GI;simp[h]
theorem Tz:(GI hs a b).length=hs.length:=by exact AU _
theorem yW(m:a<hs.length)(hb:b<hs.length):AZ (GI hs a b) a=AZ (GI hs a b) b:=by
 rw[IS m,IS hb];split<;>split<;>(first|exact YZ|exact tF (by assumption)|exact uz (by assumption)|exact vm (by assumption) (by assumption))
theorem q8(n:i<hs.length)(m:j<hs.length)(e:AZ hs i=AZ hs j):AZ (GI hs a b) i=AZ (GI hs a b) j:=by
 rw[IS n,IS m,e]
variable {nodes:List Nd} {pairs:List (Nat×Nat)} {hs:List Nat}
theorem Hd.lt(H:Hd nodes pairs hs)(h:i<hs.length):AZ hs i<hs.length:=Xv (H.le i) h
theorem Hd.merge(H:Hd nodes pairs hs)(ha:a<nodes.length)(hb:b<nodes.length)(hE:∀E,Kl nodes pairs E→E a b):Hd nodes pairs (GI hs a b):=by
 have m:a<hs.length:=by rw[H.len];exact ha
 have a0:b<hs.length:=by rw[H.len];exact hb
 refine⟨by rw[Tz];exact H.len,fun i=>?_,fun i=>?_,fun E C i hi=>?_⟩
 ·by_cases h:i<hs.length
  ·rw[IS h];have:=H.le i;split<;>(first|exact w6 this (by assumption)|exact pE this)
  ·rw[ZB (by rw[Tz];exact EM h)];exact Bc _
 ·by_cases h:i<hs.length
  ·have h1:=H.idem i;have h2:=H.idem a;have h3:=H.idem b;have h4:=H.lt h;have h5:=H.lt m;have h6:=H.lt a0;rw[IS h];split
   ·have e:AZ hs (min (AZ hs a) (AZ hs b))=min (AZ hs a) (AZ hs b):=by
     rcases NW (AZ hs a) (AZ hs b)with q|q
     ·rw[TD q];exact h2
     ·rw[TE q];exact h3
    rw[IS (!rY h6),e];split<;>exact YZ
   ·rw[IS h4,h1];split<;>(first|exact yA (by assumption) (by assumption)|exact A5 j5)
  ·have e:AZ (GI hs a b) i=0:=ZB (by rw[Tz];exact EM h);rw[e];have h0:0<hs.length:=by exact Am pN m
   rw[IS h0];have:=H.le 0;split<;>(first|exact oi this (by assumption)|exact A5 u8 this)
 ·have n:i<hs.length:=by rw[H.len];exact hi
  have s1:=H.sound E C i hi;rw[IS n];split
  ·rename_i q;have e1:=H.sound E C a ha;have e2:=H.sound E C b hb;have e3:=hE E C;have ab:E (AZ hs a) (AZ hs b):=C.trans _ _ _ (C.symm _ _ e1) (C.trans _ _ _ e3 e2);rw[q]at s1;refine C.trans _ _ _ s1 ?_;rcases NW (AZ hs a) (AZ hs b)with q|q
   ·rw[TD q,TF q];exact C.symm _ _ ab
   ·rw[TE q,TG q];exact ab
  ·exact s1
theorem cD:∀{xs:List Nat},(∀x∈xs,f x≤x)→(xs.map f).sum≤xs.sum:=by
 intro xs
 induction xs with
 |nil=>
  intro _;exact A9 _
 |cons x xs m=>
  intro h;have h1:=h x (.head _);have h2:=m fun y n=>h y (.tail _ n);simp only[CB,jF];exact Cb dg h1 h2
theorem wZ{f:Nat→Nat}{xs:List Nat}{z:Nat}:(∀x∈xs,f x≤x)→z∈xs→f z<z→(xs.map f).sum<xs.sum:=by
 induction xs with
 |nil=>exact fun zz m=>nomatch m
 |cons x xs ih=>
  intro h m q;have h2:=cD (xs:=xs) fun y n=>h y (.tail _ n);rw[CB,jF,jF];rcases A7.mp m with rfl|m
  ·exact Cb rD q h2
  ·exact Cb re (h x (.head _)) (ih (fun y n=>h y (.tail _ n)) m q)
theorem oV(a b:Nat):(GI hs a b).sum≤hs.sum:=cD fun x m=>by split<;>(first|exact Zn (by assumption)|exact UQ)
theorem um(ha:a<hs.length)(hb:b<hs.length)(m:AZ hs a≠AZ hs b):(GI hs a b).sum<hs.sum:=by
 have ma:=C6 (PZ ha);have n:=C6 (PZ hb);refine wZ (z:=max (AZ hs a) (AZ hs b)) (fun x zz=>by split<;>(first|exact Zn (by assumption)|exact UQ)) ?_ (by rw[if_pos rfl];exact dW m)
 rcases NW (AZ hs a) (AZ hs b)with q|q
 ·rw[TF q];exact n
 ·rw[TG q];exact ma
abbrev FF(hs:List Nat)(late:List (Nat×Nat)):List Nat:=late.foldl (fun hs p=>GI hs p.1 p.2) hs
theorem Rb:∀{late:List (Nat×Nat)}{hs:List Nat},Hd nodes pairs hs→(∀p∈late,p.1<nodes.length∧p.2<nodes.length∧∀E,Kl nodes pairs E→E p.1 p.2)→
  Hd nodes pairs (FF hs late)∧(∀i j,i<nodes.length→j<nodes.length→AZ hs i=AZ hs j→AZ (FF hs late) i=AZ (FF hs late) j)∧(∀p∈late,AZ (FF hs late) p.1=AZ (FF hs late) p.2)∧(FF hs late).sum≤hs.sum:=by
 intro late
 induction late with
 |nil=>
  intro hs H _;exact⟨H,fun zz zz zz zz e=>e,by simp,A9 _⟩
 |cons p late a0=>
  intro hs H h;refine BN (h p (.head _)) fun p1 p2 p3=>?_;have n:=H.len;refine Bs (a0 (H.merge p1 p2 p3) fun r m=>h r (.tail _ m)) fun a1 a2 a3 a4=>?_;refine⟨a1,fun i j hi hj e=>a2 i j hi hj (q8 (!AK hi (Ac n.symm)) (!AK hj (Ac n.symm)) e),fun r m=>?_,AK a4 (oV _ _)⟩;rcases A7.mp m with rfl|m
  ·exact a2 _ _ p1 p2 (yW (!AK p1 (Ac n.symm)) (!AK p2 (Ac n.symm)))
  ·exact a3 r m
theorem zI(H:Hd nodes pairs hs)(h:∀r∈p::late,r.1<nodes.length∧r.2<nodes.length∧∀E,Kl nodes pairs E→E r.1 r.2)(ne:AZ hs p.1≠AZ hs p.2):(FF hs (p::late)).sum<hs.sum:=by
 refine BN (h p (.head _)) fun m p2 p3=>?_;have n:=H.len;refine Bs (Rb (late:=late) (H.merge m p2 p3) fun r hr=>h r (.tail _ hr)) fun zz zz zz a4=>?_;exact Xv a4 (um (!AK m (Ac n.symm)) (!AK p2 (Ac n.symm)) ne)
abbrev Es(hs:List Nat)(F:List (Nd×Nat))(n:Nat)(nd:Nd):Nat:=(AH F (Co hs nd)).getD n
abbrev ME(hs:List Nat)(s:List (Nd×Nat)×List (Nat×Nat))(n:Nat)(nd:Nd):List (Nd×Nat)×List (Nat×Nat):=
 (if(AH s.1 (Co hs nd)).isSome=true then s.1 else Aw s.1 (Co hs nd) n,if AZ hs (Es hs s.1 n nd)=AZ hs n then s.2 else s.2++[(Es hs s.1 n nd,n)])
structure LO(nodes:List Nd)(hs:List Nat)(i:Nat)(s:List (Nd×Nat)×List (Nat×Nat)):Prop where
 a:∀j<i,∀nd,nodes[j]? =some nd→∃f,AH s.1 (Co hs nd)=some f∧(AZ hs f=AZ hs j∨(f,j)∈s.2)
 b:∀k f,AH s.1 k=some f→f<i∧∃nd,nodes[f]? =some nd∧Co hs nd=k
 d:∀p∈s.2,p.1<nodes.length∧p.2<nodes.length∧AZ hs p.1≠AZ hs p.2∧∃m n,nodes[p.1]? =some m∧nodes[p.2]? =some n∧Co hs m=Co hs n
 z:s.1.length≤i∧s.2.length≤i
theorem LO.zero:LO nodes hs 0 ([],[]):=⟨fun j m=>absurd m (Li _),fun k f e=>(nomatch e),fun p hp=>(nomatch hp),A9 _,A9 _⟩
theorem LO.step{i:Nat}{s:List (Nd×Nat)×List (Nat×Nat)}{nd:Nd}(S:LO nodes hs i s)(e:nodes[i]? =some nd):LO nodes hs (i+1) (ME hs s i nd):=by
 have hi:=(BX.mp e).1;have n:∀k f,AH s.1 k=some f→AH (ME hs s i nd).1 k=some f:=fun k f q=>by
  show AH (if _ then _ else _) k=_;split
  ·exact q
  ·rename_i h;rw[Di];split
   ·rename_i h2;rw[h2,Zeb.mp h]at q;exact Au q
   ·exact q
 have late:∀p∈s.2,p∈(ME hs s i nd).2:=fun p hp=>by
  show p∈(if _ then _ else _);split
  ·exact hp
  ·exact Jh _ hp
 have look:AH (ME hs s i nd).1 (Co hs nd)=some (Es hs s.1 i nd):=by
  show AH (if _ then _ else _) _=some ((AH s.1 (Co hs nd)).getD i);cases q:AH s.1 (Co hs nd)with
  |some f=>show AH s.1 _=_;rw[q];rfl
  |none=>show AH (Aw s.1 _ i) _=_;rw[Di,if_pos rfl];rfl
 have a0:∃m,nodes[Es hs s.1 i nd]? =some m∧Co hs m=Co hs nd:=by
  cases q:AH s.1 (Co hs nd)with
  |some f=>refine RB (S.b _ _ q) fun _ m e1 e2=>?_;exact⟨m,by rw[Es,q];exact e1,e2⟩
  |none=>exact⟨nd,by rw[Es,q];exact e,rfl⟩
 refine⟨fun j hj a1 e'=>?_,fun k f q=>?_,fun p hp=>?_,?_⟩
 ·by_cases h:j=i
  ·subst h;obtain rfl:=An ((e.symm.trans e'));refine⟨_,look,?_⟩;show _∨_∈(if AZ hs (Es hs s.1 j nd)=AZ hs j then s.2 else s.2++[(Es hs s.1 j nd,j)]);split
   ·rename_i q;exact .inl q
   ·exact .inr (Ed _ (Aq.mpr rfl))
  ·refine AI (S.a j (!Am U7 hj h) a1 e') fun f q1 q2=>?_;exact⟨f,n _ _ q1,q2.imp id (late _)⟩
 ·change AH (if _ then _ else _) k=_ at q;split at q
  ·refine AL (S.b k f q) fun q1 q2=>?_;exact⟨!GU q1,q2⟩
  ·rw[Di]at q;split at q
   ·rename_i h;obtain rfl:=An q;exact⟨!A9 _,nd,e,h.symm⟩
   ·refine AL (S.b k f q) fun q1 q2=>?_;exact⟨!GU q1,q2⟩
 ·change p∈(if AZ hs (Es hs s.1 i nd)=AZ hs i then s.2 else s.2++[(Es hs s.1 i nd,i)])at hp;split at hp
  ·exact S.d p hp
  ·rename_i h;rcases B9.mp hp with hp|hp
   ·exact S.d p hp
   ·rw[Aq.mp hp];refine AI a0 fun m e1 e2=>?_;exact⟨(BX.mp e1).1,hi,h,m,nd,e1,e,e2⟩
 ·refine AL S.z fun z1 z2=>?_;refine⟨?_,?_⟩
  ·show i9 (if _ then _ else _)≤_;split
   ·exact GU z1
   ·rename_i h;rw[Ot (Zeb.mp h),BJ];simp;exact z1
  ·show i9 (if _ then _ else _)≤_;split
   ·exact GU z2
   ·rw[BJ];simp;exact z2
theorem mV(H:Hd nodes pairs hs)(C:Kl nodes pairs E)(hk:∀nd∈nodes,∀k∈nd.2,k<nodes.length)(e1:nodes[i]? =some m)(e2:nodes[j]? =some n)(e:Co hs m=Co hs n):E i j:=by
 have s1:=congrArg Prod.fst e;have s2:m.2.map (AZ hs)=n.2.map (AZ hs):=congrArg Prod.snd e;refine C.cong i j m n e1 e2 s1 ?_;have k1:=hk m (C6 e1);have k2:=hk n (C6 e2);clear e1 e2 e s1;generalize m.2=xs at*;generalize n.2=ys at*
 induction xs generalizing ys with
 |nil=>cases ys with
  |nil=>exact .nil
  |cons y ys=>cases s2
 |cons x xs ih=>cases ys with
  |nil=>cases s2
  |cons y ys=>
   rw[CB,CB,QO]at s2;refine .cons ?_ (ih (fun k hk=>k1 k (.tail _ hk)) ys (fun k hk=>k2 k (.tail _ hk)) s2.2);have a1:=H.sound E C x (k1 x (.head _));have a2:=H.sound E C y (k2 y (.head _));rw[s2.1]at a1;exact C.trans _ _ _ a1 (C.symm _ _ a2)
structure MZ(nodes:List Nd)(pairs:List (Nat×Nat))(hs:List Nat):Prop extends Hd nodes pairs hs where
 told:∀p∈pairs,AZ hs p.1=AZ hs p.2
 cong:∀(i j:Nat) m n,nodes[i]? =some m→nodes[j]? =some n→Co hs m=Co hs n→AZ hs i=AZ hs j
end
section
variable {σ σ' τ:AA} {A:Ab} {env:Af} {ρ:AW} {nodes:List Nd} {pairs:List (Nat×Nat)} {hs:List Nat}
structure JP(nodes:List Nd)(pairs:List (Nat×Nat))(hs:List Nat)(late:List (Nat×Nat))(m:Nat):Prop where
 inv:Hd nodes pairs hs
 lt:∀p∈late,p.1<nodes.length∧p.2<nodes.length∧∀E,Kl nodes pairs E→E p.1 p.2
 sz:late.length≤1000
 alt:(late=pairs∧hs=B3 nodes.length∧hs.sum+1=m)∨(hs.sum=m∧(∀p∈late,AZ hs p.1≠AZ hs p.2)∧(∀p∈pairs,AZ hs p.1=AZ hs p.2)∧(late=[]→∀(i j:Nat) m n,nodes[i]? =some m→nodes[j]? =some n→Co hs m=Co hs n→AZ hs i=AZ hs j))
theorem Zbk(hp:∀p∈pairs,p.1<nodes.length∧p.2<nodes.length)(n:pairs.length≤1000):JP nodes pairs (B3 nodes.length) pairs ((B3 nodes.length).sum+1):=by
 have a:∀i,AZ (B3 nodes.length) i=if i<nodes.length then i else 0:=fun i=>by
  unfold AZ;by_cases h:i<nodes.length<;>simp[h]
 refine⟨⟨Lz,fun i=>?_,fun i=>?_,fun E C i m=>?_⟩,fun p h=>⟨(hp p h).1,(hp p h).2,fun E C=>C.told p h⟩,n,.inl ⟨rfl,rfl,rfl⟩⟩
 ·rw[a];split<;>(first|exact UQ|exact A5 uI)
 ·rw[a i];split
  ·rename_i h;rw[a,if_pos h]
  ·rw[a];split<;>rfl
 ·rw[a,if_pos m];exact C.refl i
theorem JP.done(W:JP nodes pairs hs [] m)(hd:nodes.Nodup)(hk:∀nd∈nodes,∀k∈nd.2,k<nodes.length):MZ nodes pairs hs:=by
 rcases W.alt with⟨e1,e2,_⟩|⟨_,_,h2,h3⟩
 ·refine⟨W.inv,fun p hp=>(by rw[←e1]at hp;cases hp),fun i j x y hi hj e=>?_⟩;have id:∀z∈nodes,Co hs z=z:=fun z hz=>by
   unfold Co;refine Prod.ext rfl ?_;show z.2.map (AZ hs)=z.2;refine Eq.trans (Dr fun k a3=>?_) (QQ _);have:=hk z hz k a3;rw[e2];simp[AZ,this]
  rw[id x (C6 hi),id y (C6 hj)]at e;subst e;have n:=BX.mp hi;have a0:=BX.mp hj;refine AX n fun a1 a2=>?_;refine AX a0 fun b1 b2=>?_;have:i=j:=(List.getElem_inj hd).mp (a2.trans b2.symm);rw[this]
 ·exact⟨W.inv,h2,h3 rfl⟩
theorem JP.round{m:Nat}{late:List (Nat×Nat)}{s:List (Nd×Nat)×List (Nat×Nat)}(W:JP nodes pairs hs late m)(a5:late≠[])(hk:∀nd∈nodes,∀k∈nd.2,k<nodes.length)(hz:nodes.length≤1000)
  (hp:∀p∈pairs,p.1<nodes.length∧p.2<nodes.length)(S:LO nodes (FF hs late) nodes.length s):JP nodes pairs (FF hs late) s.2 (FF hs late).sum∧(FF hs late).sum<m:=by
 refine Bs (Rb W.inv W.lt) fun a1 a2 a3 a4=>?_;refine⟨⟨a1,fun p hp=>?_,AK S.z.2 hz,.inr ⟨rfl,fun p hp=>(S.d p hp).2.2.1,fun p n=>?_,fun h i j x y hi hj e=>?_⟩⟩,?_⟩
 ·refine Bs (S.d p hp) fun d1 d2 zz a0=>Ec a0 fun x y d4 d5 d6=>?_;exact⟨d1,d2,fun E C=>mV a1 C hk d4 d5 d6⟩
 ·rcases W.alt with⟨e1,_,_⟩|⟨_,_,h2,_⟩
  ·exact a3 p (by rw[e1];exact n)
  ·exact a2 _ _ (hp p n).1 (hp p n).2 (h2 p n)
 ·refine AI (S.a i (BX.mp hi).1 x hi) fun f f1 f2=>?_;refine AI (S.a j (BX.mp hj).1 y hj) fun g g1 g2=>?_;rw[h]at f2 g2;rw[e,g1]at f1;obtain rfl:=An f1;rcases f2 with f2|f2
  ·rcases g2 with g2|g2
   ·rw[←f2,←g2]
   ·cases g2
  ·cases f2
 ·rcases W.alt with⟨_,_,e⟩|⟨e,h1,_,_⟩
  ·exact AK (CD a4) (Ac e)
  ·cases late with
   |nil=>exact absurd rfl a5
   |cons p r=>rw[←e];exact zI W.inv W.lt (h1 p (.head _))
theorem Jq{i:Nat}(h:i<ns.length):(nats ns)[((i:Int)).toNat]? =some (.int (AZ ns i:Nat)):=by
 rw[EN,CH,PZ h];rfl
theorem uV{ps:List (Nat×Nat)}{i:Nat}(h:(A1 (ps.map Ay))[i]? =some x):∃p,ps[i]? =some p∧x=VT (Ay p):=by
 rw[CH,CH]at h;cases m:ps[i]? with
 |none=>rw[m]at h;cases h
 |some p=>rw[m]at h;exact⟨p,rfl,(An h).symm⟩
theorem vA{ps:List (Nat×Nat)}(h:(A1 (ps.map Ay))[i]? =none):ps.length≤i:=by
 have:=GV.mp h;simpa using this
theorem FY(h:y≠(".0":Str)):EC ρ y=ρ y:=if_neg h
theorem Zg(w:AD):Cj (KK w) Bh "_law_homes"=some (some (.ref 540)):=∅
theorem vg(w:AD):Cj (KK w) Bh "enumerate"=some none:=∅
theorem zT:Gr "enumerate"=some (.type "enumerate"):=∅
abbrev CL(nodes:List Nd):List AV:=nodes.map fun n=>Bw n.key
theorem rB(ps:List (Nat×Nat)):DAs σ (A1 (ps.map Ay)) (ps.map fun p=>.tuple [.int (p.1:Nat),.int (p.2:Nat)]):=by
 induction ps with
 |nil=>exact .nil
 |cons p ps m=>exact .cons (.tup (.cons (.int _) (.cons (.int _) .nil))) m
theorem qf(ps:List (Nat×Nat)):Ii (.list (ps.map fun p=>.tuple [.int (p.1:Nat),.int (p.2:Nat)]))=true:=by
 have h:Zec (ps.map fun p=>PyData.tuple [.int (p.1:Nat),.int (p.2:Nat)])=true∧ie (ps.map fun p=>PyData.tuple [.int (p.1:Nat),.int (p.2:Nat)])≤1:=by
  induction ps with
  |nil=>exact⋯
  |cons p ps m=>simp only[CB,Zec,ig,ie,PyData.depth,m.1,Bool.and_self,true_and];have:=m.2;exact Nat.max_le.mpr ⟨A9 _,this⟩
 unfold Ii;rw[Fg,decide_eq_true_eq];refine⟨by simp only[ig];exact h.1,?_⟩;have:=h.2;simp only[PyData.depth];exact ln (CD this) rfl
theorem Zb3(R:Ah A 4)(hx:ρ x=some (.ref m))(h:σ m=some (.list (A1 (ps.map Ay))))(q:∀σ',Ap σ σ'→Φ (decide (ps≠[])) σ')
  (h1:autoParam (Cf (env.kindOf x)=true) aR)(h2:autoParam (env.scope.kind=.function) aR)(hd:autoParam ((x==("__debug__":Str))=false) aD):TR A env (.Compare (.Name x p1) [.NotEq] [.List [] p2] p3) ρ σ Φ:=by
 refine Bg (AG hx (DU (AC.nil ⟨by simp,fun D nD nb=>?_⟩)) h1 h2 hd);have n:Ap σ (upd σ D (.list [])):=.new nD;have h':upd σ D (.list []) m=some (.list (A1 (ps.map Ay))):=by rw[n m (by rw[h];simp)];exact h
 refine XO R (.list h' (rB ps)) (.list (Ao _ _ _) .nil) (qf ps) ⋯ (BO ?_);have:=q _ n;cases ps with
 |nil=>exact this
 |cons p ps=>exact this
theorem Zd2(hu:A.in1.units<Hu)(e:σ d=some (.dictT es))(n1:d≠1)(hz:es.length≤100000)
  (q:∀m,((AH es k).isSome=true∧m=σ∨AH es k=none∧m=upd σ d (.dictT (Aw es k x)))→Φ ((AH es k).getD x) m):AF A (.builtin "dict.setdefault") [.ref d,Bw k,x] σ Φ:=
 gJ hu e n1 hz (fun y n=>by have:=q σ (.inl ⟨by rw[n];rfl,rfl⟩);rw[n]at this;exact this) fun n=>by have:=q _ (.inr ⟨n,rfl⟩);rw[n]at this;exact this
set_option maxHeartbeats 1000000 in
def UE(σ:AA)(A:Ab)(nodes:List Nd)(pairs:List (Nat×Nat))(N:AB)(m:AB)(Φ:AV→AA→Prop):Prop:=∀(B:Ai)(R:Ah A 5)(hN:σ N=some (.list (CL nodes)))(hP:σ m=some (.list (A1 (pairs.map Ay))))(hd:nodes.Nodup)(hk:∀nd∈nodes,∀k∈nd.2,k<nodes.length)(n:∀nd∈nodes,nd.2.length≤100)(hp:∀p∈pairs,p.1<nodes.length∧p.2<nodes.length)(hz:nodes.length≤60)(a0:pairs.length≤900)(q:∀D hs σ',Ap σ σ'→σ D=none→σ' D=some (.list (nats hs))→MZ nodes pairs hs→Φ (.ref D) σ'),AF A (.ref 540) [.ref N,.ref m] σ Φ
def fj:((AA×Ab)×(List Nd×(List (Nat×Nat))))×((AB×AB)×(AV→AA→Prop))→Prop:=fun t=>UE t.1.1.1 t.1.1.2 t.1.2.1 t.1.2.2 t.2.1.1 t.2.1.2 t.2.2
def Kg:=zE fj ((((fun _=>none),{}),([],[])),((0,0),(fun _ _=>True)))
def D9:=Kg.1.1.1
def pj:=Kg.1.1.2
def EA:=Kg.1.2.1
def Kn:=Kg.1.2.2
def Mi:=Kg.2.1.1
def kO:=Kg.2.1.2
def lH:=Kg.2.2
set_option maxHeartbeats 1000000 in
theorem pv:UE D9 pj EA Kn Mi kO lH:=fun B R hN hP hd hk k9 hp hz h5 q=>by
 refine GQ (F:=(Um w)) (names:=["nodes","pairs"]) B R rfl (fun Lf=>?_) (C9 fun zz zz=>rfl) rfl ∅
 ·refine AJ (BR (Bt (BW (Zcc R.handled (Fd B (JW w) It ⟨rfl,Fd B (Ip w) JM ⟨rfl,Aa (Bl B (CW w) CV (Aa (AG () (Ce hN (by rw[AU];exact ln hz rfl)
   ⟨EA.length,by rw[AU],!A5 ji hz,fun D nD nb=>Ez B (JW w) It (Aa (AG () (KS (by rw[Av _ _ (by rintro rfl;exact Au ((nD.symm.trans hP)))];exact hP) (by rw[AU,AU];exact A5 uB h5) fun D2 c5 m8=>⟨by simp,?_⟩)))⟩))))⟩ ⋯ () () () ()⟩ ⋯ () () () ())))))
  refine Ex R.handled (.tup _) rfl (BY (A2 (BY (A2 (Da ?_)))));have x1:Ap D9 (upd (upd D9 D (.list (BI ((B3 EA.length).map fun(i:Nat)=>(i:Int))))) D2 (.list (A1 (Kn.map Ay)))):=(Ap.new nD).trans (.new c5);have e2:upd (upd D9 D (.list (BI ((B3 EA.length).map fun(i:Nat)=>(i:Int))))) D2 (.list (A1 (Kn.map Ay))) D2=some (.list (A1 (Kn.map Ay))):=Ao _ _ _;have e1:upd (upd D9 D (.list (BI ((B3 EA.length).map fun(i:Nat)=>(i:Int))))) D2 (.list (A1 (Kn.map Ay))) D=some (.list (nats (B3 EA.length))):=by
   rw[Av _ _ (by rintro rfl;rw[Ao]at c5;cases c5),Ao,Q2]
  have k5:D9 D2=none:=by
   cases z:D9 D2 with
   |none=>rfl
   |some v=>have:=Ap.new (x:=.list (BI ((B3 EA.length).map fun(i:Nat)=>(i:Int)))) nD D2 (by rw[z];exact Ag _);rw[c5,z]at this;exact Au this
  generalize upd (upd D9 D (.list (BI ((B3 EA.length).map fun(i:Nat)=>(i:Int))))) D2 (.list (A1 (Kn.map Ay)))=σ1 at*;refine AJ (LS (fun m ρ' σ'=>∃hs late Dh Dl,JP EA Kn hs late m∧Ap D9 σ'∧ρ' "nodes"=some (.ref Mi)∧ρ' "homes"=some (.ref Dh)∧ρ' "late"=some (.ref Dl)∧σ' Dh=some (.list (nats hs))∧σ' Dl=some (.list (A1 (late.map Ay)))∧D9 Dh=none∧D9 Dl=none)
   ((B3 EA.length).sum+1) ⟨_,_,D,D2,Zbk hp (!ln h5 rfl),x1,by rfl,by rfl,by rfl,e1,e2,nD,k5⟩ ?_)
  rintro m m5 m9 ⟨hs,late,Dh,Dl,W,x2,r1,r2,r3,f1,f2,s1,s2⟩;refine Zb3 (R.deeper _) r3 f2 fun e3 x3=>?_;have h4:=x2.trans x3;have i0:e3 Dh=some (.list (nats hs)):=by rw[x3 Dh (by rw[f1];exact Ag _)];exact f1
  have g0:e3 Dl=some (.list (A1 (late.map Ay))):=by rw[x3 Dl (by rw[f2];exact Ag _)];exact f2
  by_cases d1:late=[]
  ·subst d1;refine Ba (decide_eq_false (!nofun)) ?_;exact AJ (B8 (AG r2 (q Dh hs e3 h4 s1 i0 (W.done hd hk))))
  ·refine CN (decide_eq_true d1) ?_;have lz:=W.sz;refine AJ (Gl R.handled (Ey (AG r3 ⟨_,_,rfl,g0,trivial,trivial,late.length,fun i ρ' σ'=>i≤late.length∧Ap D9 σ'∧ρ' "nodes"=some (.ref Mi)∧σ' Dl=some (.list (A1 (late.map Ay)))∧∃c8,ρ' "homes"=some (.ref c8)∧σ' c8=some (.list (nats (FF hs (late.take i))))∧D9 c8=none,
    ⟨!Bc _,h4,r1,g0,Dh,r2,i0,s1⟩,?_⟩)))
   rintro i l8 a6 ⟨hi,x4,r4,f4,a0,r5,f5,s5⟩;refine⟨hi,_,⟨_,f4,rfl⟩,?_⟩;cases hq:(A1 (late.map Ay))[i]? with
   |some x=>
    refine AI (uV hq) fun p e8 k1=>?_;subst k1;refine Bs (Rb W.inv (late:=late.take i) fun r hr=>W.lt r (Zee hr)) fun I4 zz zz zz=>?_;have l4:FF hs (late.take (i+1))=GI (FF hs (late.take i)) p.1 p.2:=by rw[Gy,e8];show List.foldl _ _ _=_;rw[QS];rfl
    refine BN (W.lt p (C6 e8)) fun pa pb zz=>?_;have d3:=I4.len;have l7:=(BX.mp e8).1;generalize FF hs (late.take i)=hs4 at*;refine Ex R.handled (.tup _) rfl (BY (A2 (BY (A2 (Da ?_)))));have e0:put (put l8 "a" (.int p.1)) "b" (.int p.2) "homes"=some (.ref a0):=by rw[AN ⋯,AN ⋯];exact r5
    refine AJ (BR (Bl B (Mq w) MI (Aa (DU (BW
     (CR (AG e0 (AG (show(_:Option AV)=some (.int ((p.1:Nat):Int)) by rw[AN ⋯];exact As) ⟨⟨_,_,.list f5⟩,Eh f5 (!A5 o0) (Jq (!AK pa (Ac d3.symm))) (!Am o4 hz pa) ?_⟩))))))))
    refine CR (AG e0 (AG (show(_:Option AV)=some (.int ((p.2:Nat):Int))from As) ⟨⟨_,_,.list f5⟩,Eh f5 (!A5 o0) (Jq (!AK pb (Ac d3.symm))) (!Am o4 hz pb) ⟨!ld rfl,fun D5 a5 l6=>?_⟩⟩));refine Sr (is:=[(AZ hs4 p.1:Nat),(AZ hs4 p.2:Nat)]) (Ao _ _ _) (!ld rfl) fun js k4 m3 D6 l3 m7=>?_;have hj:=V5 k4 m3;subst hj;refine Ex R.handled (.list (Ao _ _ _)) rfl (BY (A2 (BY (A2 (Da ?_)))));have x5:Ap a6 (upd (upd a6 D5 (.list [.int (AZ hs4 p.1:Nat),.int (AZ hs4 p.2:Nat)])) D6 (.list (BI [((min (AZ hs4 p.1) (AZ hs4 p.2):Nat):Int),((max (AZ hs4 p.1) (AZ hs4 p.2):Nat):Int)]))):=(Ap.new a5).trans (.new l3);generalize upd (upd a6 D5 (.list [.int (AZ hs4 p.1:Nat),.int (AZ hs4 p.2:Nat)])) D6 (.list (BI [((min (AZ hs4 p.1) (AZ hs4 p.2):Nat):Int),((max (AZ hs4 p.1) (AZ hs4 p.2):Nat):Int)]))=σ5 at*;have b7:σ5 a0=some (.list (nats hs4)):=by rw[x5 a0 (by rw[f5];exact Ag _)];exact f5
    refine AJ (BR (Pi R.handled (Ey (AG (by rw[AN ⋯,AN ⋯];exact e0) ⟨_,_,rfl,b7,trivial,nats hs4,Pk b7,by rw[AU];exact ln (AK (Ac d3) hz) rfl,fun v=>match v with|.int z=>.int ((if z.toNat=max (AZ hs4 p.1) (AZ hs4 p.2)then min (AZ hs4 p.1) (AZ hs4 p.2)else z.toNat:Nat))|v=>v,fun v hv C=>?_,fun D7 b4 m2=>?_⟩)) ()))
    ·refine AI (BD.mp hv) fun z hz h0=>?_;subst h0;refine ND (Bg (AG As (AG (by rw[AN ⋯,FY ⋯];exact As) (HH (BO ?_)))));by_cases c6:z=max (AZ hs4 p.1) (AZ hs4 p.2)
     ·refine CN (decide_eq_true (!tu c6)) ?_;refine AG (by rw[AN ⋯,FY ⋯,AN ⋯];exact As) ⟨?_,rfl⟩;show _=AV.int ((if(z:Int).toNat=_ then _ else _:Nat));rw[EN,if_pos c6]
     ·refine Ba (decide_eq_false (!uX c6)) ?_;refine AG As ⟨?_,rfl⟩;show _=AV.int ((if(z:Int).toNat=_ then _ else _:Nat));rw[EN,if_neg c6]
    ·refine A2 (Ax ?_);have x7:Ap σ5 (upd σ5 D7 (.list ((nats hs4).map fun v=>match v with|.int z=>.int ((if z.toNat=max (AZ hs4 p.1) (AZ hs4 p.2)then min (AZ hs4 p.1) (AZ hs4 p.2)else z.toNat:Nat))|v=>v))):=.new b4
     refine⟨!l7,(x4.trans x5).trans x7,?_,?_,D7,As,?_,?_⟩
     ·rw[AN ⋯,AN ⋯,AN ⋯,AN ⋯,AN ⋯];exact r4
     ·rw[(x5.trans x7) Dl (by rw[f4];exact Ag _)];exact f4
     ·rw[Ao,l4,Bu];unfold GI;show _=some (AO.list ((Il _ hs4).map _));rw[Bu];refine congrArg (fun x=>some (AO.list x)) (Dr fun z zz=>?_);show AV.int ((if(z:Int).toNat=_ then _ else _:Nat))=_;rw[EN];rfl
     ·cases z:D9 D7 with
      |none=>rfl
      |some v=>have:=(x4.trans x5) D7 (by rw[z];exact Ag _);rw[b4,z]at this;exact Au this
   |none=>
    have l5:=vA hq;rw[Ig l5]at f5;refine AJ (NI (names:=["firsts","late"]) R.handled () (Bt (BW (S5 B (VB w) fun E nE m6 E1=>DU (AC.nil ⟨!Bc _,fun D5 a5 l6=>⟨!ld rfl,_,.tup _,rfl,BY (GN () (BY (GN () (Da ?_))))⟩⟩)))));have x5:Ap a6 (upd (upd a6 E (.dictT [])) D5 (.list [])):=(Ap.new nE).trans (.new a5);have e5:upd (upd a6 E (.dictT [])) D5 (.list []) D5=some (.list []):=Ao _ _ _;have h9:E≠D5:=by rintro rfl;rw[Ao]at a5;cases a5
    have e6:upd (upd a6 E (.dictT [])) D5 (.list []) E=some (.dictT []):=by rw[Av _ _ h9,Ao]
    have fr:∀{a:AB},a6 a=none→D9 a=none:=fun{a} h=>by
     cases z:D9 a with
     |none=>rfl
     |some v=>have:=x4 a (by rw[z];exact Ag _);rw[h,z]at this;exact Au this
    have sE:=fr nE;have g1:D9 D5=none:=fr (by rw[Av _ _ (Ne.symm h9)]at a5;exact a5);have k6:D5≠a0:=by rintro rfl;rw[(Ap.new (x:=.dictT []) nE) D5 (by rw[f5];exact Ag _),f5]at a5;exact Bf a5
    have b7:=(x5 a0 (by rw[f5];exact Ag _)).trans f5;have g9:=x4.trans x5;generalize upd (upd a6 E (.dictT [])) D5 (.list [])=σ5 at*;have f0:∀{σ':AA},Ap D9 σ'→σ' Mi=some (.list (CL EA)):=fun{σ'} x=>by rw[x Mi (by rw[hN];exact Ag _)];exact hN
    refine Bs (Rb W.inv W.lt) fun I5 zz zz zz=>?_;have e4:=I5.len;have c4:=fun s S=>W.round (s:=s) d1 hk (!ln hz rfl) hp S;generalize FF hs late=hs5 at*;refine AJ (Gl R.handled (Zbe (Fd B (vg w) zT ⟨rfl,Aa (AG (by rw[AN ⋯,AN ⋯];exact r4) ⟨_,_,rfl,f0 g9,fun it=>⟨⟨_,_,_,rfl⟩,trivial,EA.length,fun i ρ' σ'=>i≤EA.length∧Ap D9 σ'∧ρ' "nodes"=some (.ref Mi)∧ρ' "homes"=some (.ref a0)∧ρ' "firsts"=some (.ref E)∧ρ' "late"=some (.ref D5)∧
     σ' a0=some (.list (nats hs5))∧∃s,LO EA hs5 i s∧σ' E=some (.dictT (s.1.map fun p=>(p.1.key,.int (p.2:Nat))))∧σ' D5=some (.list (A1 (s.2.map Ay))),
     ⟨!Bc _,g9,?_,?_,?_,?_,b7,_,.zero,e6,e5⟩,?_⟩⟩)⟩ ⋯ () () () ())))
    ·rw[AN ⋯,AN ⋯];exact r4
    ·rw[AN ⋯,AN ⋯];exact r5
    ·exact As
    ·rw[AN ⋯];exact As
    rintro i a9 d6 ⟨hi,x6,a1,a2,a3,a4,b1,s,S,b2,b3⟩;refine⟨hi,_,⟨_,f0 x6,rfl⟩,?_⟩;cases b0:(CL EA)[i]? with
    |none=>
     have i1:EA.length≤i:=by have:=GV.mp b0;rwa [AU]at this
     obtain rfl:i=EA.length:=by exact Ej hi i1
     refine AL (c4 s S) fun W2 Sl=>?_;exact Ax ⟨_,Sl,hs5,s.2,a0,D5,W2,x6,a1,a2,a4,b1,b3,s5,g1⟩
    |some x=>
     obtain⟨nd,b6,rfl⟩:∃nd,EA[i]? =some nd∧Bw nd.key=x:=by
      rw[CH]at b0;cases hz:EA[i]? with
      |none=>rw[hz]at b0;cases b0
      |some nd=>rw[hz]at b0;exact⟨nd,rfl,An b0⟩
     have S':=S.step b6;have a7:=(BX.mp b6).1;have m4:=hk nd (C6 b6);have a8:=k9 nd (C6 b6);refine AL S.z fun z1 z2=>?_;rw[GH];refine Ex R.handled (.tup _) rfl (BY (A2 (BY (A2 (Da ?_)))));have h7:put (put a9 "n" (.int (i:Nat))) "node" (.tup (.str nd.1::nats nd.2)) "node"=some (.tup (.str nd.1::nats nd.2)):=As;have k0:put (put a9 "n" (.int (i:Nat))) "node" (.tup (.str nd.1::nats nd.2)) "n"=some (.int (i:Nat)):=by rw[AN ⋯];exact As
     have c9:∀{y:Str},y≠("n":Str)→y≠("node":Str)→put (put a9 "n" (.int (i:Nat))) "node" (.tup (.str nd.1::nats nd.2)) y=a9 y:=fun h1 h2=>by rw[AN h2,AN h1]
     generalize put (put a9 "n" (.int (i:Nat))) "node" (.tup (.str nd.1::nats nd.2))=ρ7 at*;refine AJ (BR (NJ (l:=E) TY jA (AG (by rw[c9 ⋯ ⋯];exact a3) ⟨rfl,.inr (.inr ⟨_,b2⟩),BW (CE (Bt (Aa (CR (AG h7 (BB ⟨⟨_,_,.tup⟩,Fc (x:=.str nd.1) (!CX o1) () (!CX o2) ⟨!Cu _,Ez B (I3 w) JD (Aa
      (Pi R.handled (Pg (NS h7 (by rw[AU];exact ln a8 rfl) ⟨_,rfl,trivial,nats nd.2,Ss,by rw[AU];exact ln a8 rfl,fun v=>match v with|.int k=>.int (AZ hs5 k.toNat:Nat)|v=>v,fun v hv C=>?_,fun D7 b4 m2=>?_⟩)) ()))⟩⟩))))))⟩)))
     ·refine AI (BD.mp hv) fun k l0 g2=>?_;subst g2;have:=m4 k l0;refine CR (AG (by rw[AN ⋯,FY ⋯,c9 ⋯ ⋯];exact a2) (AG As ⟨⟨_,_,.list b1⟩,Eh b1 (!A5 o0) (Jq (!AK this (Ac e4.symm))) (!Am o4 hz this) ⟨?_,rfl⟩⟩));show _=AV.int (AZ hs5 (k:Int).toNat:Nat);rw[EN]
     ·have e7:(nats nd.2).map (fun v=>match v with|.int k=>.int (AZ hs5 k.toNat:Nat)|v=>v)=nats (nd.2.map (AZ hs5)):=by
       show(nd.2.map _).map _=(nd.2.map _).map _;rw[Bu,Bu];rfl
      rw[e7];refine LZ (Ao _ _ _) (by rw[AU,AU];exact ln a8 rfl) (NN (by rw[AU,AU];simp;exact A5 wT a8) ?_);have x7:Ap d6 (upd d6 D7 (.list (nats (nd.2.map (AZ hs5))))):=.new b4;have h6:=(x7 a0 (by rw[b1];exact Ag _)).trans b1;have f3:=(x7 E (by rw[b2];exact Ag _)).trans b2;have k3:=(x7 D5 (by rw[b3];exact Ag _)).trans b3;have k2:=x6.trans x7;generalize upd d6 D7 (.list (nats (nd.2.map (AZ hs5))))=σ7 at*;have i2:AV.tup ([AV.str nd.1]++nats (nd.2.map (AZ hs5)))=Bw (Co hs5 nd).key:=(GH (Co hs5 nd)).symm;rw[i2];have d4:AH (s.1.map fun p=>(p.1.key,AV.int (p.2:Nat))) (Co hs5 nd).key=(AH s.1 (Co hs5 nd)).map fun i=>.int (i:Nat):=N6 Nd.key (fun i=>AV.int (i:Nat)) (fun zz zz=>La) _ _;refine AG k0 (Zd2 (R.deeper _ |>.mono (!ld rfl):Ah _ 1).u1 f3 E1 (by rw[AU];exact ln (AK (AK z1 (Ct a7)) hz) rfl) fun b5 h8=>?_);have ev:(AH (s.1.map fun p=>(p.1.key,AV.int (p.2:Nat))) (Co hs5 nd).key).getD (.int (i:Nat))=.int (Es hs5 s.1 i nd:Nat):=by
       rw[d4];unfold Es;cases AH s.1 (Co hs5 nd)<;>rfl
      rw[ev];have k8:E≠a0:=by rintro rfl;exact(nomatch (An ((b1.symm.trans b2))))
      have e9:E≠D5:=by rintro rfl;exact(nomatch (An ((b3.symm.trans b2))))
      obtain⟨x8,c1,c2,c3⟩:Ap D9 b5∧b5 a0=some (.list (nats hs5))∧b5 E=some (.dictT ((ME hs5 s i nd).1.map fun p=>(p.1.key,.int (p.2:Nat))))∧b5 D5=some (.list (A1 (s.2.map Ay))):=by
       rcases h8 with⟨h1,rfl⟩|⟨h1,rfl⟩
       ·rw[d4]at h1;have d5:(AH s.1 (Co hs5 nd)).isSome=true:=by simpa using h1
        refine⟨k2,h6,?_,k3⟩;show _=some (AO.dictT (Il _ (if _ then _ else _)));rw[if_pos d5];exact f3
       ·rw[d4]at h1;have d5:¬(AH s.1 (Co hs5 nd)).isSome=true:=by simpa using h1
        refine⟨fun a ha=>by rw[Av _ _ (by rintro rfl;exact ha sE)];exact k2 a ha,by rw[Av _ _ (Ne.symm k8)];exact h6,?_,by rw[Av _ _ (Ne.symm e9)];exact k3⟩;rw[Ao];show _=some (AO.dictT (Il _ (if _ then _ else _)));rw[if_neg d5,oJ Nd.key (fun i=>AV.int (i:Nat)) (fun zz zz=>La)]
      have g3:Es hs5 s.1 i nd<EA.length:=by
       unfold Es;cases k7:AH s.1 (Co hs5 nd)with
       |none=>exact a7
       |some f=>have:=(S.b _ _ k7).1;show f<_;exact AK this (Ct a7)
      have d2:(ME hs5 s i nd).2=if AZ hs5 (Es hs5 s.1 i nd)=AZ hs5 i then s.2 else s.2++[(Es hs5 s.1 i nd,i)]:=rfl;generalize Es hs5 s.1 i nd=fi at*;refine A2 ?_;have m0:put ρ7 "first" (.int (fi:Nat)) "first"=some (.int (fi:Nat)):=As
      have m1:put ρ7 "first" (.int (fi:Nat)) "n"=some (.int (i:Nat)):=by rw[AN ⋯];exact k0
      have n:∀{y:Str},y≠("n":Str)→y≠("node":Str)→y≠("first":Str)→put ρ7 "first" (.int (fi:Nat)) y=a9 y:=fun h1 h2 h3=>by rw[AN h3,c9 h1 h2]
      generalize put ρ7 "first" (.int (fi:Nat))=ρ8 at*
      have mh:ρ8 "homes"=some (.ref a0):=by rw[n ⋯ ⋯ ⋯];exact a2
      refine AJ (CM (Bg (CR (AG mh (AG m0 ⟨⟨_,_,.list c1⟩,Eh c1 (!A5 o0) (Jq (!AK g3 (Ac e4.symm))) (!Am o4 hz g3) (CR (AG mh (AG m1 ⟨⟨_,_,.list c1⟩,Eh c1 (!A5 o0) (Jq (!AK a7 (Ac e4.symm))) (!Am o4 hz a7) (NO (BO ?_))⟩)))⟩)))));by_cases he:AZ hs5 fi=AZ hs5 i
      ·rw[decide_eq_true (!Am Ym he)];refine Ba Im ?_;rw[if_pos he]at d2;refine Ax (Ax ⟨!a7,x8,?_,?_,?_,?_,c1,_,S',c2,by rw[d2];exact c3⟩)
       ·rw[n ⋯ ⋯ ⋯];exact a1
       ·exact mh
       ·rw[n ⋯ ⋯ ⋯];exact a3
       ·rw[n ⋯ ⋯ ⋯];exact a4
      ·rw[decide_eq_false (!Am Ra he)];refine CN Bool.not_false ?_;rw[if_neg he]at d2;refine AJ (Be (CY (l:=D5) Fj Fk (AG (by rw[n ⋯ ⋯ ⋯];exact a4) ⟨rfl,c3,Aa (Bt (BW (AG m0 (AG m1 ⟨!ld rfl,E7 c3 (by rw[AU,AU];exact ln (AK (AK z2 (Ct a7)) hz) rfl) ?_⟩))))⟩)));refine Ax (Ax ⟨!a7,fun a ha=>?_,?_,?_,?_,?_,?_,_,S',?_,?_⟩)
       ·rw[Av _ _ (by rintro rfl;exact ha g1)];exact x8 a ha
       ·rw[n ⋯ ⋯ ⋯];exact a1
       ·exact mh
       ·rw[n ⋯ ⋯ ⋯];exact a3
       ·rw[n ⋯ ⋯ ⋯];exact a4
       ·rw[Av _ _ (Ne.symm k6)];exact c1
       ·rw[Av _ _ e9];exact c2
       ·rw[Ao,d2];simp
theorem cw{σ A nodes pairs N m Φ}:UE σ A nodes pairs N m Φ:=@zF _ fj _ @pv (((σ,A),(nodes,pairs)),((N,m),Φ))
variable {σ'':AA} {c c':HS} {L L':AY}
def DQ(σ:AA)(v:AV)(d:Dat):Prop:=DA σ v (EO d)
def A4(σ:AA)(vs:List AV)(ds:List Dat):Prop:=DAs σ vs (Kf ds)
theorem DQ.int(i:Int):DQ σ (.int i) (.int i):=by unfold DQ;rw[EO];exact DA.int i
theorem DQ.str(x:Str):DQ σ (.str x) (.str x):=by unfold DQ;rw[EO];exact DA.str x
theorem DQ.tup(h:A4 σ vs ds):DQ σ (.tup vs) (.tuple ds):=by unfold DQ;rw[EO];exact DA.tup h
theorem DQ.list(e:σ l=some (.list vs))(h:A4 σ vs ds):DQ σ (.ref l) (.list ds):=by unfold DQ;rw[EO];exact DA.list e h
theorem A4.nil:A4 σ [] []:=by unfold A4;rw[Kf];exact DAs.nil
theorem A4.cons(a:DQ σ v d)(b:A4 σ vs ds):A4 σ (v::vs) (d::ds):=by unfold A4;rw[Kf];exact DAs.cons a b
theorem DA.le(k:∀a x,σ a=some x→σ' a=some x)(D:DA σ v d):DA σ' v d:=
 @DA.rec σ (fun x d m=>DA σ' x d) (fun xs ds m=>DAs σ' xs ds) .int .str (fun m h=>.tup h) (fun e m h=>.list (k _ _ e) h) .nil (fun m m a b=>.cons a b) v d D
theorem DAs.le(k:∀a x,σ a=some x→σ' a=some x)(D:DAs σ v d):DAs σ' v d:=
 @DAs.rec σ (fun x d m=>DA σ' x d) (fun xs ds m=>DAs σ' xs ds) .int .str (fun m h=>.tup h) (fun e m h=>.list (k _ _ e) h) .nil (fun m m a b=>.cons a b) v d D
theorem DQ.le(k:∀a x,σ a=some x→σ' a=some x)(h:DQ σ v d):DQ σ' v d:=DA.le k h
theorem A4.le(k:∀a x,σ a=some x→σ' a=some x)(h:A4 σ v d):A4 σ' v d:=DAs.le k h
abbrev HU(ns:List Nat):Dat:=.list (ns.map fun(n:Nat)=>.int n)
theorem A4.nats(ns:List Nat):A4 σ (nats ns) (ns.map fun(n:Nat)=>.int n):=by
 induction ns with
 |nil=>exact A4.nil
 |cons i is m=>exact A4.cons (DQ.int i) m
def BE(n:Nat)(d:Dat):Prop:=kqdOk n d=true
theorem BE.up:∀{d:Dat},BE n d→BE (n+1) d:=by
 induction n with
 |zero=>intro d h;cases d<;>simp_all [BE,kqdOk]
 |succ n ih=>
  intro d h;cases d with
  |tuple ds=>simp only[BE,kqdOk,Fe]at h ⊢;exact fun x m=>ih (h x m)
  |list ds=>simp only[BE,kqdOk,Fe]at h ⊢;exact fun x m=>ih (h x m)
  |_=>simp_all [BE,kqdOk]
theorem BE.int(n:Nat)(i:Int):BE n (.int i):=by cases n<;>rfl
theorem BE.seq{n:Nat}{ds:List Dat}(h:∀d∈ds,BE n d):BE (n+1) (.list ds)∧BE (n+1) (.tuple ds):=by
 constructor<;>(simp only[BE,kqdOk,Fe];exact h)
theorem BE.nats(n:Nat)(ns:List Nat):BE (n+1) (HU ns):=(BE.seq fun d hd=>by refine AI (BD.mp hd) fun z zz m=>?_;subst m;exact .int n _).1
theorem MV(h:n≤64)(o:BE n d):Ii (EO d)=true:=by
 refine AL (kqd_lay n d o) fun a b=>?_;unfold Ii;rw[Fg,decide_eq_true_eq];exact⟨a,!AK b h⟩
theorem PQ(hd:BE n d)(m:BE k e):(d=e→HQ (EO d) (EO e)=true)∧(d≠e→HQ (EO d) (EO e)=false):=by
 have h:=kqd_eqv n d e k hd m;refine⟨h.mpr,fun q=>?_⟩;cases z:HQ (EO d) (EO e)with
 |false=>rfl
 |true=>exact absurd (h.mp z) q
theorem XI{x y:AV}{d e:Dat}{n k:Nat}{Φ:AV→AA→Prop}(R:Ah A 4)(a:DQ σ x d)(b:DQ σ y e)(hd:BE n d)(m:BE k e)(hn:n≤64)(hk:k≤64)(q1:d=e→Φ (.bool false) σ)(q2:d≠e→Φ (.bool true) σ):AM A (Dx .NotEq) x y σ Φ:=by
 refine XO R a b (MV hn hd) (MV hk m) ?_;by_cases q:d=e
 ·rw[(PQ hd m).1 q];exact q1 q
 ·rw[(PQ hd m).2 q];exact q2 q
theorem gT(R:Ah A 4)(a:DQ σ x d)(b:DQ σ y e)(hd:BE n d)(m:BE k e)(hn:n≤64)(hk:k≤64)(q1:d=e→Φ (.bool true) σ)(q2:d≠e→Φ (.bool false) σ):AM A (Dx .Eq) x y σ Φ:=by
 refine gn R a b (MV hn hd) (MV hk m) ?_;by_cases q:d=e
 ·rw[(PQ hd m).1 q];exact q1 q
 ·rw[(PQ hd m).2 q];exact q2 q
def EZ(σ σ':AA):AA:=fun a=>if(σ a).isSome then none else σ' a
theorem Mu(n:σ a=none)(e:σ' a=some x):EZ σ σ' a=some x:=by unfold EZ;rw[n];exact e
theorem Vl(e:EZ σ σ' a=some x):σ' a=some x:=by
 unfold EZ at e;split at e
 ·exact Au e
 ·exact e
theorem JN(x:Ap σ' σ''):∀a y,EZ σ σ' a=some y→EZ σ σ'' a=some y:=fun a y e=>by
 have h:=Vl e;unfold EZ at e ⊢;split at e
 ·exact Au e
 ·rename_i n;rw[if_neg n,x a (by rw[h];exact Ag _)];exact h
theorem Ap.none(x:Ap σ σ'){a:AB}(n:σ' a=none):σ a=none:=by
 cases z:σ a with
 |none=>rfl
 |some v=>have:=x a (by rw[z];exact Ag _);rw[n,z]at this;exact Au this
end
section
variable {σ σ' σ'' τ:AA} {A:Ab} {env:Af} {ρ:AW} {c c':HS} {L L':AY}
theorem ae(x:Ap τ σ):∀a y,EZ σ σ' a=some y→EZ τ σ' a=some y:=fun a y e=>by
 have h:=Vl e;unfold EZ at e ⊢;split at e
 ·exact Au e
 ·rename_i n;have m:σ a=none:=by simpa using n
  rw[x.none m];exact h
theorem A4.snoc(a:A4 σ vs ds)(b:DQ σ v d):A4 σ (vs++[v]) (ds++[d]):=by
 induction vs generalizing ds with
 |nil=>cases ds with
  |nil=>exact A4.cons b A4.nil
  |cons d ds=>unfold A4 at a;rw[Kf]at a;cases a
 |cons u us m=>cases ds with
  |nil=>unfold A4 at a;rw[Kf]at a;cases a
  |cons d' ds=>
   unfold A4 at a;rw[Kf]at a;cases a with
   |cons n a2=>exact A4.cons n (m a2)
theorem Zbx(hh:A.handled=none)
  (k:BQ A env a1 ρ σ fun a0 m=>Hp a0 (.Name x px)∧∃(xs:List T)(av:T→AV)(dq:T→Dat),(∀σ',Ap m σ'→a0.has σ' (xs.map av))∧xs.length≤1000000∧
   (∀t∈xs,∀C σ',Ap m σ'→EV A (CQ scope env C) a6 (put (EC ρ) x (av t)) σ' fun y n=>Ap σ' n∧DQ (EZ m n) y (dq t))∧
   ∀D σ',Ap m σ'→DQ (EZ m σ') (.ref D) (.list (xs.map dq))→Φ (.ref D) σ')
  (hc:HX scope env x=true)(hs:autoParam (∀x,Gw a1 env x=pure x) aI):
  EV A env (.ListComp a6 [⟨.Name x px,a1,[],0⟩] scope a9) ρ σ Φ:=
 Sx hh (fun s S=>AT (k s S) (fun v s₁ h₁=>AT h₁ (fun it s₂ a4=>Jb a4 fun I a0 m e1 a7 a8 g t a3=>RA a3 fun ht xs av dq hx hl kf q=>⟨I,a0,m,e1,a7,a8,g,t,ht,xs.length,fun i ys σ'=>i≤xs.length∧Ap m σ'∧A4 (EZ m σ') ys ((xs.take i).map dq),
  ⟨Bc _,.refl _,A4.nil⟩,hl,fun i ys σ' a2=>BN a2 fun e1 e2 e3=>⟨e1,_,hx σ' e2 i,by
   rw[CH];cases z:xs[i]? with
   |none=>
    have:xs.length≤i:=GV.mp z;rw[Ig this]at e3;intro D nD nb;have x1:Ap σ' (upd σ' D (.list ys)):=.new nD;exact q D _ (e2.trans x1) (DQ.list (Mu (e2.none nD) (Ao _ _ _)) (e3.le (JN x1)))
   |some v=>
    refine AX (BX.mp z) fun hi hv=>?_;intro C;refine(kf v (hv▸TW hi) C σ' e2).mono fun y n a5=>AL a5 fun e4 e5=>⟨hi,e2.trans e4,?_⟩;rw[Gy,z,Cr];exact(e3.le (JN e4)).snoc e5⟩⟩) fun zz zz e=>e) fun zz zz e=>e) hc hs
theorem W8(hh:A.handled=none)
  (k:BQ A env a0 ρ σ fun a1 m=>Hp a1 (.Name x px)∧∃(xs:List T)(av:T→AV)(dq:T→Dat),(∀σ',Ap m σ'→a1.has σ' (xs.map av))∧xs.length≤1000000∧
   (∀t∈xs,∀C σ',Ap m σ'→EV A (CQ scope env C) a8 (put (EC ρ) x (av t)) σ' fun y n=>Ap σ' n∧DQ (EZ m n) y (dq t))∧
   ∀D σ',Ap m σ'→DQ (EZ m σ') (.ref D) (.list (xs.map dq))→AP A env (Fh (.Name y py) env) (.ref D) ρ σ' (fun a2 σ₂=>Φ .next a2 σ₂))
  (hc:HX scope env x=true)(b0:autoParam (Px (.ListComp a8 [⟨.Name x px,a0,[],0⟩] scope a9) (some (.Name y py)) a4.line env=pure true) aR)(hs:autoParam (∀x,Gw a0 env x=pure x) aI):
  Eg A env (.Assign [.Name y py] (.ListComp a8 [⟨.Name x px,a0,[],0⟩] scope a9) a4) ρ σ Φ:=
 XG hh (fun s S=>AT (k s S) (fun v s₁ h₁=>AT h₁ (fun it s₂ a3=>Jb a3 fun I a1 m e1 b1 b2 g t a7=>RA a7 fun ht xs av dq hx hl kf q=>⟨I,a1,m,e1,b1,b2,g,t,ht,xs.length,fun i ys σ'=>i≤xs.length∧Ap m σ'∧A4 (EZ m σ') ys ((xs.take i).map dq),
  ⟨Bc _,.refl _,A4.nil⟩,hl,fun i ys σ' a6=>BN a6 fun e1 e2 e3=>⟨e1,_,hx σ' e2 i,by
   rw[CH];cases z:xs[i]? with
   |none=>
    have:xs.length≤i:=GV.mp z;rw[Ig this]at e3;intro D nD nb;have x1:Ap σ' (upd σ' D (.list ys)):=.new nD;exact q D _ (e2.trans x1) (DQ.list (Mu (e2.none nD) (Ao _ _ _)) (e3.le (JN x1)))
   |some v=>
    refine AX (BX.mp z) fun hi hv=>?_;intro C;refine(kf v (hv▸TW hi) C σ' e2).mono fun y n a5=>AL a5 fun e4 e5=>⟨hi,e2.trans e4,?_⟩;rw[Gy,z,Cr];exact(e3.le (JN e4)).snoc e5⟩⟩) fun zz zz e=>e) fun zz zz e=>e) hc b0 hs
def G6(e:AV):Prop:=∃(a b:Nat)(m:List Str),e=.tup [.int a,.int b,.tup (m.map .str)]∧∀r∈m,PyData.strOk r=true
def RH:AV→Dat
 |.int i=>.int i
 |.str x=>.str x
 |_=>.none
def Rj:AV→Dat
 |.tup [a,b,.tup m]=>.tuple [RH a,RH b,.tuple (m.map RH)]
 |_=>.none
theorem G6.dq(h:G6 e):DQ σ e (Rj e)∧BE 3 (Rj e):=by
 obtain⟨a,b,rs,rfl,hr⟩:=h;have h1:A4 σ (rs.map AV.str) ((rs.map AV.str).map RH):=by
  clear hr
  induction rs with
  |nil=>exact A4.nil
  |cons r rs ih=>exact A4.cons (DQ.str r) ih
 refine⟨DQ.tup (A4.cons (DQ.int _) (A4.cons (DQ.int _) (A4.cons (DQ.tup h1) A4.nil))),?_⟩;refine(BE.seq fun d hd=>?_).2;rcases A7.mp hd with rfl|hd
 ·exact .int _ _
 rcases A7.mp hd with rfl|hd
 ·exact .int _ _
 rw[Aq.mp hd];refine(BE.seq fun d hd=>?_).2;refine AI (BD.mp hd) fun y hy m=>?_;subst m;refine AI (BD.mp hy) fun r a0 n=>?_;subst n;exact hr r a0
theorem A4.edges(h:∀e∈es,G6 e):A4 σ es (es.map Rj):=by
 induction es with
 |nil=>exact A4.nil
 |cons e es m=>exact A4.cons (h e (.head _)).dq.1 (m fun e n=>h e (.tail _ n))
abbrev bg(c:HS)(nd:Nd):Int:=match AH c.known (nd.1,nd.2.map c.find)with|some n=>(c.find n:Nat)|none=>-1
def JZ(c:HS):Dat:=.tuple [HU ((B3 c.uab.length).map c.find),.list (c.nodes.map fun nd=>.int (bg c nd)),.list ((BU c).map fun a=>HU (Internal.ss (c.ab a))),.list (c.edges.map Rj),HU c.forest,HU c.waiting,.int (c.marks.length:Nat)]
theorem BE.mono(h:n≤m)(o:BE n d):BE m d:=by
 induction h with
 |refl=>exact o
 |step _ ih=>exact ih.up
theorem pT(he:∀e∈c.edges,G6 e):BE 5 (JZ c):=by
 refine(BE.seq fun d hd=>?_).2;simp only[A7,HR,or_false]at hd;rcases hd with rfl|rfl|rfl|rfl|rfl|rfl|rfl
 ·exact .nats _ _
 ·refine(BE.seq fun d hd=>?_).1;refine AI (BD.mp hd) fun nd zz m=>?_;subst m;exact .int _ _
 ·refine(BE.seq fun d hd=>?_).1;refine AI (BD.mp hd) fun nd zz a0=>?_;subst a0;exact .nats _ _
 ·refine(BE.seq fun d hd=>?_).1;refine AI (BD.mp hd) fun e h n=>?_;subst n;exact(G6.dq (σ:=fun zz=>none) (he e h)).2
 ·exact .nats _ _
 ·exact .nats _ _
 ·exact .int _ _
theorem aJ(w:AD):Cj (KK w) Bh "_law_photo"=some (some (.ref 545)):=∅
theorem lZ(h:a∈BU c):c.uab[a]? =some a:=by simpa using(Dd.mp h).2
theorem Zax(h:c.uab[a]? =some a):c.find a=a:=G5 h
theorem fG(e:σ l=some (.list xs)):∀σ',Ap σ σ'→(BH.list l).has σ' xs:=fun σ' x=>Pk (by rw[x l (by rw[e];exact Ag _)];exact e)
theorem oO(B:Ai)(R:Ah A 5)(P:AS σ L c)(S:Dw c)(hN:σ N=some (.list (CL c.nodes)))(he:∀e∈c.edges,G6 e)(hm:c.marks.length≤1000)(hn:c.nodes.length≤900)
  (q:∀v σ',Ap σ σ'→DQ (EZ σ σ') v (JZ c)→Φ v σ'):AF A (.ref 545) [.ref (L .hp),.ref N] σ Φ:=by
 have nl:=S.nl;refine GQ (F:=(VU w)) (names:=["heap_now","nodes"]) B R rfl (fun Lf=>?_) (C9 fun zz zz=>rfl) rfl ∅
 ·refine AJ (W8 R.handled (LY (Fd B (Ip w) JM ⟨rfl,Aa (Bq B () P.iH () (Ov w) (MH w) (AC.nil (Op B (R.up rfl) P (!ln hn rfl)
   ⟨c.nodes.length,rfl,!ln (CD hn) rfl,⟨_,_,rfl⟩,B3 c.nodes.length,fun(i:Nat)=>.int (0+i),fun i=>.int (c.find i:Nat),fun zz zz=>XJ,by rw[Lz];exact ln hn rfl,fun i hi C σ' x=>?_,fun D1 b4 x1 d1=>A2 ?_⟩)))⟩ ⋯ () () () ())) ())
  ·have hi:=MA.mp hi;rw[show(fun(i:Nat)=>AV.int (0+i)) i=.int (i:Nat) by show AV.int (0+(i:Int))=_;rw[Jg]];exact Bq B (by rw[AN ⋯,FY ⋯];rfl) (P.ext x).iH () (G8 w) (Hb w) (Aa (AG As (HD B (R.up rfl) (P.ext x) S.U (!AK hi (Ac nl)) ⟨.refl _,DQ.int _⟩)))
  have P1:=P.ext x1;refine AJ (W8 R.handled (Ey (AG (by rw[AN ⋯];rfl) ⟨N,_,rfl,by rw[x1 N (by rw[hN];exact Ag _)];exact hN,trivial,c.nodes,fun nd=>Bw nd.key,fun nd=>.int (bg c nd),fG (by rw[x1 N (by rw[hN];exact Ag _)];exact hN),!ln hn rfl,fun nd b0 C σ' x=>?_,fun D2 b5 x2 d2=>A2 ?_⟩)) ())
  ·refine AX (Tu b0) fun i hi=>?_;refine AL (S.kids i nd hi) fun k1 k2=>?_;have e0:put (EC (put (B4 ["heap_now","nodes"] [.ref (L .hp),.ref N]) "finds" (.ref D1))) "node" (Bw nd.key) "node"=some (.tup (.str nd.1::nats nd.2)):=by rw[As,GH]
   refine Bq B (by rw[AN ⋯,FY ⋯,AN ⋯];rfl) (P1.ext x).iH () (yZ w) (Yv w) (BW (CR (AG e0 (BB ⟨⟨_,_,.tup⟩,Fc (x:=.str nd.1) (!CX o1) () (!CX o2) (NS e0 (by rw[AU];exact ln k1 rfl) ?_)⟩))));exact zD B (R.up rfl) (P1.ext x) S.U k2 (!ln k1 rfl) (fun n hn=>S.kn _ n hn) fun b1 x3=>⟨x3,DQ.int _⟩
  have P2:=P1.ext x2;refine AJ (W8 R.handled (Ey (Bq B (by rw[AN ⋯,AN ⋯];rfl) P2.iH () (SX w) (Os w) (AC.nil (Sf B (R.up rfl) P2 S.U fun D3 b1 a5 b6 P3 F3=>
   ⟨D3,_,rfl,a5,trivial,BU c,fun(a:Nat)=>.int a,fun a=>HU (Internal.ss (c.ab a)),fG a5,?_,fun a ha C σ' x=>?_,fun D4 a1 x4 d4=>A2 ?_⟩)))) ())
  ·exact AK (Ny _ _) (by rw[Lz];exact ln (AK (Ac nl.symm) hn) rfl)
  ·have hr:=lZ ha;have b3:=Qn ha;refine AI (S.abo a hr) fun l hl a3=>?_;have b2:c.ab a=l:=by unfold HS.ab;rw[hl];rfl
   refine Bq B (by rw[AN ⋯,FY ⋯,AN ⋯,AN ⋯];rfl) (P3.ext x).iH () (jo w) (aV w) (Aa (AG As (x9 B (R.up rfl) (P3.ext x) S.U b3 (l:=l) (by rw[Zax hr];exact hl) (!ln (CD a3) rfl) fun D5 a0 a8 a9 x5=>⟨x5,?_⟩)));show DQ _ _ (HU (Internal.ss (c.ab a)));rw[b2];exact DQ.list (Mu (x.none a9) a8) (A4.nats _)
  have x3:=F3.ext P2 P3;have P4:=P3.ext x4;have z3:=S.z3;have z4:=S.z4;have z5:=S.z5;have xb:=(x1.trans x2).trans (x3.trans x4);have r0:put (put (put (B4 ["heap_now","nodes"] [.ref (L .hp),.ref N]) "finds" (.ref D1)) "sought" (.ref D2)) "users" (.ref D4) "heap_now"=some (.ref (L .hp)):=by rw[AN ⋯,AN ⋯,AN ⋯];rfl
  refine AJ (B8 (Bt (AC.cons (AG (by rw[AN ⋯,AN ⋯];exact As) (AC.cons (AG (by rw[AN ⋯];exact As) (AC.cons (AG As
   (AC.cons (Ez B (JW w) It (Aa (BM B r0 P4.iH (Ok w) PD (KS (P4.at_ .edges _ rfl) (!ln z3 rfl) fun E1 a6 zz=>?_)))))))))))))
  have y1:Ap a1 (upd a1 E1 (.list c.edges)):=.new a6;have f1:=Mu (xb.none a6) (Ao a1 E1 (.list c.edges));generalize upd a1 E1 (.list c.edges)=a0 at*;have P5:=P4.ext y1;refine AC.cons (Ez B (JW w) It (Aa (BM B r0 P5.iH (VF w) Uc (KS (P5.at_ .forest _ rfl) (by rw[AU];exact ln z4 rfl) fun E2 a2 zz=>?_))));have y2:Ap a0 (upd a0 E2 (.list (nats c.forest))):=.new a2;have f2:=Mu ((xb.trans y1).none a2) (Ao a0 E2 (.list (nats c.forest)));generalize upd a0 E2 (.list (nats c.forest))=σ6 at*;have P6:=P5.ext y2;refine AC.cons (Ez B (JW w) It (Aa (BM B r0 P6.iH (Pa w) M3 (KS (P6.at_ .waiting _ rfl) (by rw[AU];exact ln z5 rfl) fun E3 a7 zz=>?_))));have y3:Ap σ6 (upd σ6 E3 (.list (nats c.waiting))):=.new a7;have f3:=Mu (((xb.trans y1).trans y2).none a7) (Ao σ6 E3 (.list (nats c.waiting)));generalize upd σ6 E3 (.list (nats c.waiting))=σ7 at*;have P7:=P6.ext y3;have a4:=y2.trans y3;have m:=y1.trans a4;refine Aa (Bq B r0 P7.iH () (Z4 w) (WQ w) (AC.nil (ck B (R.up rfl) P7 hm ⟨!ld rfl,q _ _ (xb.trans m) ?_⟩)));refine DQ.tup (A4.cons ?_ (A4.cons ?_ (A4.cons ?_ (A4.cons ?_ (A4.cons ?_ (A4.cons ?_ (A4.cons (DQ.int _) A4.nil)))))))
  ·have:=d1.le (JN (((x2.trans x3).trans x4).trans m));rw[nl]at this;show DQ _ _ (.list (((B3 c.uab.length).map c.find).map _));rw[Bu];exact this
  ·exact(d2.le (ae x1)).le (JN ((x3.trans x4).trans m))
  ·exact(d4.le (ae ((x1.trans x2).trans x3))).le (JN m)
  ·exact DQ.list (JN a4 _ _ f1) (.edges he)
  ·exact DQ.list (JN y3 _ _ f2) (.nats _)
  ·exact DQ.list f3 (.nats _)
variable {l:List Af}
theorem lT(w:AD):Cj (KK w) Bh "_law_is_refused"=some (some (.ref 552)):=∅
theorem jc(B:Ai)(R:Ah A 12)(al:Kx A σ l)(P:AS σ L c)(U:By c.uab)(hn:c.nodes.length≤900)(T:Cq σ t dx (L .hp))
  (hl:σ l0=some (.list (A1 ps)))(hz:ps.length≤800)(X:Mn c.nodes.length (B6 (if m then ps else ps++[(n,n),(0,0)])) N i0)(q:∀σ',Ap σ σ'→Φ (.bool true) σ'):
  AF A (.ref 552) [.ref t,.ref l0,.int n,.bool m] σ Φ:=by
 refine AF.def (F:=(fh w)) (names:=["trial","pairs","n","is_whole"]) B R rfl (fun Lf=>?_) (LL fun zz zz zz zz=>rfl) rfl ∅
 ·refine AJ (Zcx (L:=Lf) (l:=l) (Ψ:=fun σ'=>Ap σ σ') B rfl rfl (Ke al.fr) (NK (Zbv (Pr (AG () (BO ⟨fun zz zz=>rfl,?_⟩))))) (fun ρ' σ' x=>q σ' x) () () ());cases m with
  |true=>
   refine CN rfl ?_;rw[if_pos rfl]at X;refine NK (Sv (L:=Lf) B () T () (ZE w) (QW w) rfl rfl () (Ke al.fr) al.kd al.own (Aa (AG () ⟨fun zz zz=>rfl,fun nL o=>?_⟩)) () ⋯ () () () ());have x2:Ap σ (upd σ Lf (.frz o)):=.new nL;exact sW B (R.deeper _) (P.ext x2) U hn X (T.ext x2) (by rw[x2 _ (by rw[hl];exact Ag _)];exact hl) (!ln hz rfl) fun σ' x3=>x3.back nL
  |false=>
   refine Ba rfl ?_;rw[if_neg Gq]at X;refine NK (Sv (L:=Lf) B () T () (Y6 w) (Qs w) rfl rfl () (Ke al.fr) al.kd al.own (GP (AG () (AG () (BB ⟨fun zz zz=>rfl,fun nL o=>?_⟩)))) () ⋯ () () () ());have x2:Ap σ (upd σ Lf (.frz o)):=.new nL;exact kx B (R.deeper _) (P.ext x2) hn X (T.ext x2) (by rw[x2 _ (by rw[hl];exact Ag _)];exact hl) hz fun σ' x3=>x3.back nL
end
section
variable {σ σ' σ'' τ τ':AA} {s s' s'':AQ} {h h':A3} {A:Ab} {env:Af} {ρ ρ':AW} {scope:C1} {x:Str}
def Q3(scope:C1)(env:Af)(x:Str):Bool:=
 scope.kind== .function&&env.scope.kind== .function&&decide ((scope.names.map (·.1)).Nodup)&&((scope.names.filter fun p=>p.2== .cell)==[(x,.cell)])&&
 scope.names.all fun p=>match p.2 with
  |.free=>env.kindOf p.1==some .cell&&(env.cells.lookup p.1).isSome
  |.local=>p.1==".0"
  |_=>true
structure JX(scope:C1)(env:Af)(x:Str):Prop where
 kind:scope.kind=.function
 ekind:env.scope.kind=.function
 nd:(scope.names.map (·.1)).Nodup
 one:(scope.names.filter fun p=>p.2== .cell)=[(x,.cell)]
 free:∀y,(y,NameKind.free)∈scope.names→env.kindOf y=some .cell∧(env.cells.lookup y).isSome=true
 loc:∀y,(y,NameKind.local)∈scope.names→y=".0"
theorem v9(h:Q3 scope env x=true):JX scope env x:=by
 unfold Q3 at h;simp -iota only[Fg,beq_iff_eq,decide_eq_true_eq,Fe]at h;refine AL h fun a0 h5=>AL a0 fun n h4=>AL n fun a1 h3=>AL a1 fun h1 h2=>?_;refine⟨h1,h2,h3,h4,fun y m=>?_,fun y m=>?_⟩
 ·have:=h5 _ m;simpa using this
 ·have:=h5 _ m;simpa using this
theorem JX.cell(c:JX scope env x):(y,NameKind.cell)∈scope.names↔y=x:=by
 have:(y,NameKind.cell)∈(scope.names.filter fun p=>p.2== .cell)↔(y,NameKind.cell)∈scope.names:=by simp[Dd]
 rw[←this,c.one];simp
theorem ZK(c:JX scope env x)(e:(Gx scope env).names.lookup y=some k):(k=.cell∧((y,NameKind.free)∈scope.names∨y=x))∨(k=.local∧y=".0")∨(k≠.cell∧k≠.local):=by
 have m:=mem_of_lookup e;unfold Gx at m;obtain⟨⟨n,k'⟩,hm,q⟩:=BD.mp m;dsimp only at q;split at q
 ·rename_i hc;cases q;simp only[Fg,beq_iff_eq]at hc;exact .inl ⟨rfl,.inl (hc.1.1▸hm)⟩
 ·cases q;by_cases h1:k=NameKind.local
  ·subst h1;exact .inr (.inl ⟨rfl,c.loc _ hm⟩)
  ·by_cases h2:k=NameKind.cell
   ·subst h2;exact .inl ⟨rfl,.inr (c.cell.mp hm)⟩
   ·exact .inr (.inr ⟨h2,h1⟩)
abbrev Gk(scope:C1)(env:Af)(x:Str)(C K:AB):Af:=Lp scope ((x,K)::WD scope env) C env
theorem dD(c:JX scope env x){C K:AB}:(Gk scope env x C K).kindOf x=some .cell:=by
 have hm:=c.cell.mpr rfl;have:(x,NameKind.cell)∈(Gx scope env).names:=BD.mpr ⟨_,hm,!rfl⟩;refine OR ?_ this;have:(Gx scope env).names.map (·.1)=scope.names.map (·.1):=by
  unfold Gx;rw[Bu];refine Dr fun p m=>?_;obtain⟨n,k⟩:=p;show(if _ then _ else _:Str×FN).1=n;split<;>rfl
 show(Il _ (Gx scope env).names).Nodup;rw[this];exact c.nd
theorem ym(c:JX scope env x){C K:AB}(e:(Gk scope env x C K).kindOf y=some .cell)(ne:y≠x):env.kindOf y=some .cell∧(Gk scope env x C K).cells.lookup y=env.cells.lookup y:=by
 rcases ZK c e with⟨_,m|m⟩|⟨q,_⟩|⟨q,_⟩
 ·have f:=c.free y m;refine⟨f.1,?_⟩;have h1:y∈(DR env scope.names []).map (·.1):=cQ (.inl ⟨m,f.2⟩);obtain⟨⟨y',a⟩,hm,rfl⟩:=BD.mp h1;have n:=LQ hm;rcases n with n|n
  ·cases n
  ·rw[n.2];show((x,K)::DR env scope.names []).lookup _=_;rw[QB,beq_eq_false_iff_ne.mpr ne];exact Vj (Rt c.nd (by simp) (by simp)) hm
 ·exact absurd m ne
 ·exact nomatch q
 ·exact absurd rfl q
theorem Vq(c:JX scope env x){C K a:AB}(h:a∈oc (Gk scope env x C K)):a=K∨a∈oc env:=by
 obtain⟨⟨y,a'⟩,hp,rfl⟩:=BD.mp h;refine AL (Dd.mp hp) fun hm hk=>?_;have hk:(Gk scope env x C K).kindOf y=some .cell:=by simpa using hk
 rcases A7.mp hm with q|hm
 ·refine AL (NX q) fun m n=>?_;subst m;subst n;exact .inl rfl
 ·rcases LQ (show(y,a')∈DR env scope.names []from hm)with q|q
  ·cases q
  ·exact .inr (J7 q.2 (c.free y q.1).1)
theorem yV(c:JX scope env x){C K:AB}(hn:(oc env).Nodup)(hK:K∉oc env):(oc (Gk scope env x C K)).Nodup:=by
 have hk:((DR env scope.names []).map (·.1)).Nodup:=Rt c.nd (by simp) (by simp);have n:∀p∈DR env scope.names [],env.cells.lookup p.1=some p.2∧env.kindOf p.1=some .cell:=fun p hp=>by
  rcases LQ (show(p.1,p.2)∈DR env scope.names []from hp)with z|z
  ·cases z
  ·exact⟨z.2,(c.free _ z.1).1⟩
 have a0:(((x,K)::DR env scope.names []).map (·.2)).Nodup:=by
  rw[CB,FM];refine⟨fun m=>?_,?_⟩
  ·refine AI (BD.mp m) fun p hp e=>?_;have e:p.2=K:=e;refine AL (n p hp) fun m1 m2=>?_;exact hK (e▸J7 m1 m2)
  ·refine Nf.mpr ((Nf.mp hk).imp_of_mem fun{p q} hp hq a1 e=>?_);refine AL (n p hp) fun m1 m2=>?_;refine AL (n q hq) fun m3 m4=>?_;exact a1 (UC hn m1 m2 (e▸m3) m4)
 exact List.Nodup.sublist ((YL).map _) a0
theorem St.compK(c:JX scope env x){C K:AB}(S:St env ρ σ h)(hn:∃m,h.Ns C m)(hx:h.IsCell K (some v))(r:VR h av v)(n1:σ C=none)(n2:hb.get? C=none)(hC:C∉oc env)(k1:σ K=none)(k2:hb.get? K=none)(hK:K∉oc env)(a1:C≠K):
  St (Gk scope env x C K) (put (EC ρ) x av) σ h:=by
 refine AX hn fun m hn=>?_;have lx:(Gk scope env x C K).cells.lookup x=some K:=by show((x,K)::_).lookup x=_;rw[QB];simp
 refine⟨S.g,⟨⟨m,hn,fun y a0 e k=>?_⟩,fun a ha=>?_,fun y a0 e k=>?_,yV c S.l.apart hK,fun q=>?_⟩,⟨n1,n2⟩,fun a ha=>?_⟩
 ·exfalso;have n:y≠x:=by
   rintro rfl;have:=dD (C:=C) (K:=K) c;exact(nomatch (An ((k.symm.trans this))))
  rcases ZK c k with⟨q,_⟩|⟨_,rfl⟩|⟨_,q⟩
  ·exact nomatch q
  ·unfold put at e;rw[if_neg n]at e;unfold EC at e;exact Au (((if_pos rfl).symm.trans e))
  ·exact absurd rfl q
 ·rcases Vq c ha with rfl|ha
  ·exact⟨_,hx⟩
  ·exact S.l.cell a ha
 ·by_cases n:y=x
  ·subst n;unfold put at e;obtain rfl:=An (((if_pos rfl).symm.trans e));exact⟨K,v,lx,hx,r⟩
  ·refine AL (ym c k n) fun k1 k2=>?_;unfold put at e;rw[if_neg n]at e;unfold EC at e;split at e
   ·exact Au e
   ·rw[k2];exact S.l.cellv y a0 e k1
 ·rcases Vq c q with q|q
  ·exact a1 q
  ·exact hC q
 ·rcases Vq c ha with rfl|ha
  ·exact⟨k1,k2⟩
  ·exact S.nC a ha
theorem zx:∀(names:List (Str×FN))(m:List (Str×AB))(h:A3)(n:Nat),(names.filter fun p=>p.2== .cell)=[]→HL n names m=m∧YM h names=h:=by
 intro names
 induction names with
 |nil=>
  intro _ _ _ _;exact⟨rfl,rfl⟩
 |cons p_ r a0=>
  intro m h n e;obtain⟨nm,k⟩:=p_;rw[Ls]at e;unfold HL YM;split at e
  ·exact nomatch e
  ·rename_i hk;dsimp only at hk;rw[if_neg hk,if_neg hk];exact a0 m h n e
theorem su:∀(names:List (Str×FN))(m:List (Str×AB))(h:A3)(n:Nat),(names.filter fun p=>p.2== .cell)=[(x,.cell)]→HL n names m=(x,n)::m∧YM h names=h.push {cls:=.type "cell",data:=.cell none}:=by
 intro names
 induction names with
 |nil=>
  intro _ _ _ e;cases e
 |cons p_ r a0=>
  intro m h n e;obtain⟨nm,k⟩:=p_;rw[Ls]at e;unfold HL YM;split at e
  ·rename_i hk;dsimp only at hk;rw[QO]at e;obtain⟨e1,e2⟩:=e;cases e1;rw[if_pos hk,if_pos hk];obtain⟨a,b⟩:=zx r ((x,n)::m) (h.push {cls:=.type "cell",data:=.cell none}) (n+1) e2;exact⟨a,b⟩
  ·rename_i hk;dsimp only at hk;rw[if_neg hk,if_neg hk];exact a0 m h n e
theorem xP{code:Value}(n:(scope.names.filter fun p=>p.2== .cell)=[(x,.cell)])
  (q:Q {scope:=scope,locals:=s.heap.objs.size,globals:=globals,cells:=(x,s.heap.objs.size+1)::cl,qual:=qual,func:=none,code:=env.code,frame:=env.frame,builtins:=env.builtins}
   {s with heap:=(s.heap.push {cls:=.type "dict",data:=.dict #[]}).push {cls:=.type "cell",data:=.cell none}}):
  AR (Ae pg w) A (newFunctionEnv scope globals cl [] qual none code (some env)) Q E s:=by
 simp only[newFunctionEnv,QP,if_true];refine AE (wpAny_alloc ?_);refine AE (wpAny_layCells _ (fun name kind cells=>by cases m:kind==NameKind.cell<;>simp[m]) _ _ _ _ ?_);obtain⟨a,b⟩:=su scope.names cl (s.heap.push {cls:=.type "dict",data:=.dict #[]}) (s.heap.push {cls:=.type "dict",data:=.dict #[]}).objs.size n;dsimp only;rw[a,b,Jk];refine AE (Ad (Ad q))
theorem Ar.kcell(x:Ar τ s τ' s'){K:AB}(n:τ K=none)(h:s.heap.IsCell K v):τ' K=none∧s'.heap.IsCell K v:=by
 refine AI h fun o ho hd=>?_;refine AI (x.evo _ o ho n) fun o' m f=>?_;exact⟨x.dead ho n,o',m,f.data.trans hd⟩
theorem Z8{K:AB}(h:s.heap.IsCell K v):NT s.heap K∧∀o,s.heap.get? K=some o→∀xs,o.data≠.fields xs:=by
 refine AI h fun o n hd=>?_;exact⟨⟨o,n,fun m=>Qt m fun zz zz zz d=>!(nomatch ((hd.symm.trans d)))⟩,fun o' e xs d=>by obtain rfl:=An ((n.symm.trans e));exact(nomatch ((hd.symm.trans d)))⟩
def Wv(σ:AA)(s:AQ)(A:Ab)(env:Af)(ρ:AW)(scope:C1)(x:Str)(n:L7)(px:A8)(a3:L7)(a4:Option (Value→PySem.Sem Unit))(Q:Value→AQ→Prop)(a5:A8)(p0:A8)(FIN:AB→AA→Prop):Prop:=∀(hh:A.handled=none)(hc:Q3 scope env x=true)(S:St env ρ σ s.heap)(k:BQ A env n ρ σ fun a2 a0=>Hp a2 (.Name x px)∧∃(N:Nat)(Inv:Nat→List AV→AA→Prop),Inv 0 [] a0∧N≤1000000∧∀i ys σ',Inv i ys σ'→i≤N∧∃r,a2.nxt σ' i r∧
   match r with
   |none=>∀D,σ' D=none→hb.get? D=none→FIN D (upd σ' D (.list ys))
   |some v=>∀C K,EV A (Gk scope env x C K) a3 (put (EC ρ) x v) σ' (fun y a1=>Inv (i+1) (ys++[y]) a1)) (fin:∀D C σ' s',FIN D σ'→St env ρ σ' s'.heap→Ar σ s σ' s'→(∃m,s'.heap.Ns C m)→σ' C=none→C∉fp env→hb.get? C=none→EW σ s C→
   QE (Ae pg w) A (fun zz zz=>False) a4 Q (.ref D) C (.ok .next) s') (hs:autoParam (∀x,Gw n env x=pure x) aI),AR (Ae pg w) A (Xk (.ListComp a3 [⟨.Name x px,n,[],0⟩] scope a5) scope env p0 (TV []) false (A0 n env) a4) Q (fun zz zz=>False) s
def dA:(((AA×AQ)×(Ab×Af))×((AW×C1)×(Str×L7)))×(((A8×L7)×((Option (Value→PySem.Sem Unit))×(Value→AQ→Prop)))×((A8×A8)×(AB→AA→Prop)))→Prop:=fun t=>Wv t.1.1.1.1 t.1.1.1.2 t.1.1.2.1 t.1.1.2.2 t.1.2.1.1 t.1.2.1.2 t.1.2.2.1 t.1.2.2.2 t.2.1.1.1 t.2.1.1.2 t.2.1.2.1 t.2.1.2.2 t.2.2.1.1 t.2.2.1.2 t.2.2.2
def FV:=zE dA (((((fun _=>none),{}),({},Bk)),(((fun _=>none),Bk),(Bk,Bk))),(((Bk,Bk),(none,(fun _ _=>True))),((Bk,Bk),(fun _ _=>True))))
def PO:=FV.1.1.1.1
def Mo:=FV.1.1.1.2
def UN:=FV.1.1.2.1
def Ix:=FV.1.1.2.2
def M4:=FV.1.2.1.1
def PR:=FV.1.2.1.2
def IF:=FV.1.2.2.1
def aX:=FV.1.2.2.2
def US:=FV.2.1.1.1
def Zq:=FV.2.1.1.2
def aj:=FV.2.1.2.1
def fL:=FV.2.1.2.2
def YQ:=FV.2.2.1.1
def qZ:=FV.2.2.1.2
def xn:=FV.2.2.2
theorem wN:Wv PO Mo UN Ix M4 PR IF aX US Zq aj fL YQ qZ xn:=fun hh hc S k fin hs=>by
 have c:=v9 hc;refine iE rfl hs (WZ fun p hp e=>(c.free p.1 (by rw[←e];exact hp)).2) c.kind (fun y hy e=>OR c.nd (by rw[←e];exact hy)) (AT (k Mo S) (fun v s₁ h₁=>AT h₁ (fun it s₂ h9=>Jb h9 fun I b6 a1 e1 e8 e9 g t h6=>MY h6 fun ht N Inv i0 hN step=>?_) fun zz zz e=>DL e) fun zz zz e=>DL e);subst e1;have e2:St Ix M4 a1 s₂.heap:=S.step g t;have k4:=Oh S.g e9;refine Ni (xP c.one ?_) (by show([]:List Value).toArray.size≤Nj;rw[CG];exact Bc _);dsimp only;have c8:(s₂.heap.push {cls:=.type "list",dict:=none,data:=.seq ([]:List Value).toArray}).objs.size=s₂.heap.objs.size+1:=Jk ..;rw[c8];have e6:∀b o,s₂.heap.get? b=some o→(((s₂.heap.push {cls:=.type "list",dict:=none,data:=.seq ([]:List Value).toArray}).push {cls:=.type "dict",data:=.dict #[]}).push {cls:=.type "cell",data:=.cell none}).get? b=some o:=fun b o e=>BC _ (BC _ (BC _ e));have g3:(((s₂.heap.push {cls:=.type "list",dict:=none,data:=.seq ([]:List Value).toArray}).push {cls:=.type "dict",data:=.dict #[]}).push {cls:=.type "cell",data:=.cell none}).PlainList s₂.heap.objs.size #[]:=⟨_,BC _ (BC _ (Bz _ rfl))⟩;have k1:∃m,(((s₂.heap.push {cls:=.type "list",dict:=none,data:=.seq ([]:List Value).toArray}).push {cls:=.type "dict",data:=.dict #[]}).push {cls:=.type "cell",data:=.cell none}).Ns (s₂.heap.objs.size+1) m:=by
  rw[←c8];exact⟨_,(Heap.Ns.new _ (.type "dict")).keeps fun b o e=>BC _ e⟩
 have k6:(((s₂.heap.push {cls:=.type "list",dict:=none,data:=.seq ([]:List Value).toArray}).push {cls:=.type "dict",data:=.dict #[]}).push {cls:=.type "cell",data:=.cell none}).IsCell (s₂.heap.objs.size+1+1) none:=by
  have e:((s₂.heap.push {cls:=.type "list",dict:=none,data:=.seq ([]:List Value).toArray}).push {cls:=.type "dict",data:=.dict #[]}).objs.size=s₂.heap.objs.size+1+1:=by rw[Jk,c8]
  rw[←e];exact⟨_,Bz _ rfl,rfl⟩
 have a9:∀a,s₂.heap.objs.size≤a→s₂.heap.get? a=none:=fun a ha=>Ie ha;generalize((s₂.heap.push {cls:=.type "list",dict:=none,data:=.seq ([]:List Value).toArray}).push {cls:=.type "dict",data:=.dict #[]}).push {cls:=.type "cell",data:=.cell none}=h₁ at*;have b1:∀a,s₂.heap.get? a=none→a1 a=none:=fun a=>g.none1;have a2:∀a,s₂.heap.get? a=none→hb.get? a=none:=fun a=>g.noneb;have a8:∀a,s₂.heap.get? a=none→a∉fp Ix:=fun a=>e2.nofp;have a6:∀a,s₂.heap.get? a=none→a∉b6.own I:=fun a=>e8.noown;have c1:∀a,s₂.heap.get? a=none→b6.off [a]:=fun a=>e8.nooff;have eD:=a9 s₂.heap.objs.size (A9 _);have eC:=a9 (s₂.heap.objs.size+1) (Gv _);have eK:=a9 (s₂.heap.objs.size+1+1) (!A5 fS);have h5:s₂.heap.objs.size≠s₂.heap.objs.size+1:=Bm (Nk _);have g9:s₂.heap.objs.size≠s₂.heap.objs.size+1+1:=by exact Bm (Gv _)
 have i1:s₂.heap.objs.size+1≠s₂.heap.objs.size+1+1:=by exact Bm (A9 _)
 generalize s₂.heap.objs.size+1+1=K at*;generalize s₂.heap.objs.size+1=C at*;generalize s₂.heap.objs.size=D at*;have f4:Bp s₂.heap h₁:=fun a o zz zz e zz zz=>e6 a o e;have kk:Ar a1 s₂ a1 {s₂ with heap:=h₁}:=.keeps e6 rfl rfl;have g1:St Ix M4 a1 h₁:=e2.step (s':={s₂ with heap:=h₁}) (g.keeps e6) kk;have c6:CA w I b6 D C a1 {s₂ with heap:=h₁} 0 []:=⟨e8.step (s':={s₂ with heap:=h₁}) kk f4,b1 _ eD,b1 _ eC,⟨#[],g3,.nil⟩,k1⟩;have g2:EW PO Mo D:=t.fresh eD;have k8:EW PO Mo C:=t.fresh eC;have k9:EW PO Mo K:=t.fresh eK;have hx:=dD (C:=C) (K:=K) c;have lx:(Gk PR Ix IF C K).cells.lookup IF=some K:=by show((IF,K)::_).lookup IF=_;rw[QB];simp
 have e0:FA (Ae pg w) UN (.compLoop (.ListComp Zq [⟨.Name IF US,aX,[],0⟩] PR YQ) 0 (.ref I) (.ref D) (Gk PR Ix IF C K)) (QE (Ae pg w) UN (fun zz zz=>False) aj fL (.ref D) C) {s₂ with heap:=h₁}:=by
  refine eS (fun n s'=>∃i ys σ',N<n+i∧ys.length≤i∧Inv i ys σ'∧St Ix M4 σ' s'.heap∧Ar PO Mo σ' s'∧CA w I b6 D C σ' s' i ys∧(σ' K=none∧∃v,s'.heap.IsCell K v)) (fun n s' z=>?_) (N+1)
   ⟨0,[],a1,!A9 _,!Bc _,i0,g1,t.trans kk,c6,b1 _ eK,_,k6⟩
  refine qz z fun i ys σ' hn hy l3 z=>Bs z fun S' t' ca z=>Fw z fun nK vK hK=>?_;refine RB (step i ys σ' l3) fun g0 r hr q=>?_;have hf:=ca.it.fields;refine AT (Bo.next (target:=.Name IF US) (E:=fun zz zz=>False) S'.g ca.it hh hr ht) (fun o a5 d5=>?_) fun zz zz e=>DL e
  have l4:=S'.ownfx hf;have KP:∀a5,Kp (b6.own I) s' a5→St Ix M4 σ' a5.heap∧Bp s'.heap a5.heap:=fun a5 kp=>have H:=fun b m=>⟨k4 b m,(hf b m).2⟩;⟨S'.kp kp l4 H,(S'.g.kp kp (fun b m=>(hf b m).1) H).2⟩;cases o with
  |none=>
   refine AL d5 fun e kp=>?_;subst e;refine AL (KP _ kp) fun h7 e4=>?_;refine GC ca.pl fun vs n' el rs=>?_;refine Jp ca.ns fun m' oC b7 c3 c4 qC=>?_;have oD:Eb w a5.heap D (.list ys):=⟨vs,n',kp.k _ _ (a6 D eD) el,rs.mono e4⟩;have d1:=h7.adopt (x:=.list ys) (a2 D eD) (a8 D eD) oD;have c9:=(kp.stp t' e9).adopt (y:=.list ys) g2;have f5:upd σ' D (.list ys) C=none:=by rw[Av _ _ (Ne.symm h5)];exact ca.nC
   exact fin D C _ a5 (q D ca.nD (a2 D eD)) d1 c9 ⟨m',oC,b7,c3,kp.k _ _ (a6 C eC) c4,qC⟩ f5 (a8 C eC) (a2 C eC) k8
  |some v=>
   refine AT d5 (fun zz a4 z=>NU z fun av e rx d2 kp=>?_) fun zz zz e=>DL e;subst e;refine AL (KP _ kp) fun d1 f3=>?_;have a3:=ca.kp kp f3 d2 (a6 D eD) (a6 C eC);have c9:=kp.stp t' e9;have b2:a4.heap.IsCell K vK:=by refine AI hK fun o ho hd=>?_;exact⟨o,kp.k _ _ (a6 K eK) ho,hd⟩
   refine Py (wpAny_storeName_cell (by simp[Lp,Gx,c.kind]) hx lx b2 fun a7 c5 d4=>?_);have kC:Kp [K] a4 {a4 with heap:=a7}:=⟨fun b o hb e=>d4.extBut b o (fun h=>hb (Aq.mpr h)) e,rfl,rfl⟩;refine AL (d1.kn1 kC nK (a8 K eK) (a2 K eK) (Z8 b2).1) fun c2 b4=>?_;have k3:=kC.stp1 c9 k9;have b3:CA w I b6 D C σ' {a4 with heap:=a7} (i+1) ys:=by
    refine GC a3.pl fun vs n' el rs=>?_;refine Jp a3.ns fun h3 oC b7 c3 c4 qC=>?_;exact⟨a3.it.kn kC b4 (fun b m=>by rw[Aq.mp m];exact(Z8 b2).2) (c1 K eK),a3.nD,a3.nC,⟨vs,⟨n',kC.k _ _ (by simpa using g9) el⟩,rs.mono b4⟩,h3,oC,b7,c3,kC.k _ _ (by simpa using i1) c4,qC⟩
   have Sc:St (Gk PR Ix IF C K) (put (EC M4) IF av) σ' a7:=c2.compK c b3.ns c5 (rx.mono b4) b3.nC (a2 C eC) (fun m=>a8 C eC (.tail _ m)) nK (a2 K eK) (fun m=>a8 K eK (.tail _ m)) i1;refine wpAny_tests_nil ?_;dsimp only;refine AT (q C K {a4 with heap:=a7} Sc) (fun y d6 k5=>BG k5 fun ay f0 k2 h2 b0 i2=>?_) fun zz zz e=>DL e;have e7:=b0.evo.tup c2.g;have a0:=b3.step b0 e7;have h1:=c2.step (s:={a4 with heap:=a7}) h2 b0;refine AL (b0.kcell (K:=K) nK (s:={a4 with heap:=a7}) c5) fun f2 f1=>?_;refine GC a0.pl fun vs n' el rs=>?_;refine Xl ⟨n',el⟩ (fun k0 e5 d3=>?_) (by have e1:=rs.length;rw[Gs]at e1;have e3:ys.length≤1000000:=AK hy (AK g0 hN);rw[CG];rw[show vs.size=ys.length from e1.symm];exact AK e3 ⋯);have kD:Kp [D] d6 {d6 with heap:=k0}:=⟨fun b o hb e=>d3.extBut b o (fun h=>hb (by simp[h])) e,rfl,rfl⟩;refine AL (h1.kn1 kD a0.nD (a8 D eD) (a2 D eD) a0.ntD.1) fun h4 b5=>?_;have h0:=kD.stp1 (k3.trans b0) g2;refine Jp a0.ns fun h8 oC b7 c3 c4 qC=>?_;refine AI f1 fun oK k7 l0=>?_;refine⟨n-1,!o8 hn g0,i+1,ys++[ay],f0,!o6 hn,by simp;exact hy,i2,h4,h0,⟨a0.it.kn kD b5 (fun b m=>by rw[Aq.mp m];exact a0.ntD.2) (c1 D eD),a0.nD,a0.nC,⟨vs.push y,e5,?_⟩,h8,oC,b7,c3,kD.k _ _ (by simpa using Ne.symm h5) c4,qC⟩,f2,_,oK,kD.k _ _ (by simpa using Ne.symm g9) k7,l0⟩;rw[QF];exact(rs.mono b5).append (.one (k2.mono b5))
 exact iG e0 (S7 c6.it e0)
theorem u9{σ s A env ρ scope x m px n a1 Q a0 p0 FIN}:Wv σ s A env ρ scope x m px n a1 Q a0 p0 FIN:=@zF _ dA _ @wN ((((σ,s),(A,env)),((ρ,scope),(x,m))),(((px,n),(a1,Q)),((a0,p0),FIN)))
theorem Zcl(hh:A.handled=none)
  (k:BQ A env a1 ρ σ fun b0 a3=>Hp b0 (.Name x px)∧∃(N:Nat)(Inv:Nat→List AV→AA→Prop),Inv 0 [] a3∧N≤1000000∧∀i ys σ',Inv i ys σ'→i≤N∧∃r,b0.nxt σ' i r∧
   match r with
   |none=>∀D,σ' D=none→hb.get? D=none→AP A env (Fh (.Name y py) env) (.ref D) ρ (upd σ' D (.list ys)) (fun a0 σ₂=>Φ .next a0 σ₂)
   |some v=>∀C K,EV A (Gk scope env x C K) a5 (put (EC ρ) x v) σ' (fun y a6=>Inv (i+1) (ys++[y]) a6))
  (hc:Q3 scope env x=true)
  (b4:autoParam (Px (.ListComp a5 [⟨.Name x px,a1,[],0⟩] scope a9) (some (.Name y py)) b1.line env=pure true) aR)
  (hs:autoParam (∀x,Gw a1 env x=pure x) aI):
  Eg A env (.Assign [.Name y py] (.ListComp a5 [⟨.Name x px,a1,[],0⟩] scope a9) b1) ρ σ Φ:=fun s S=>by
 show AR _ _ (GR _ _) _ _ _;rw[exec_Assign_Name_used _ _ _ _ b4];refine AE (EJ (AE ?_));show AR _ A (do let _ ←Xk (.ListComp a5 [⟨.Name x px,a1,[],0⟩] scope a9) scope env _ (TV []) false (A0 a1 env) (some (Fh (.Name y py) env))) _ _ s
 refine AE (u9 (FIN:=fun D σ'=>AP A env (Fh (.Name y py) env) (.ref D) ρ σ' (fun a0 σ₂=>Φ .next a0 σ₂)) hh hc S k (fun D C σ' s' q S' t b6 nC fC bC b5=>?_) hs)
 refine AT (q s' _ S' (.ref D)) (fun zz s'' b3=>Je b3 fun a0 σ₂ a8 a2 b2=>?_) fun zz zz e=>e;refine Fw (a2.ns (JR nC fC) b6) fun a4 m hn=>?_;refine⟨m,hn,fun h' b7=>?_⟩;have kC:Kp [C] s'' {s'' with heap:=h'}:=⟨fun b o hb e=>b7.extBut b o (fun h=>hb (Aq.mpr h)) e,rfl,rfl⟩;have a7:=a8.kn kC (fun b m=>by rw[Aq.mp m];exact a4) (fun b m=>by rw[Aq.mp m];exact⟨bC,Qi hn⟩);refine Ad (Ad ⟨.next,a0,σ₂,trivial,a7,?_,b2⟩)
 refine kC.stp (t.toF.trans a2) (fun b m n=>?_);rw[Aq.mp m]at n ⊢;exact b5 (IL n).1
end
section
variable {σ σ' σ'' τ:AA} {A:Ab} {env:Af} {ρ:AW} {c c':HS} {L L':AY} {K:AA} {H C:AB} {cells:List Int}
structure At(σ:AA)(c:HS)(L:AY)(K:AA)(H C:AB)(cells:List Int):Prop where
 P:AS σ L c
 K:∀a x,K a=some x→σ a=some x∧¬A6 c L a∧a≠H
 hand:∃p q,Iv σ H C cells p q
 nH:¬A6 c L H
 nC:¬A6 c L C
def CT(K σ σ':AA):AA:=fun a=>if(σ a).isSome then K a else σ' a
theorem At.le(X:At σ c L K H C cells){σ':AA}:∀a x,K a=some x→CT K σ σ' a=some x:=fun a x e=>by
 unfold CT;rw[(X.K a x e).1];exact e
theorem ve(K:AA):∀a x,EZ σ σ' a=some x→CT K σ σ' a=some x:=fun a x e=>by
 unfold EZ at e;unfold CT;split at e
 ·exact Au e
 ·rename_i h;rw[if_neg h];exact e
theorem At.ext(X:At σ c L K H C cells)(x:Ap σ σ'):At σ' c L (CT K σ σ') H C cells:=by
 refine Bx X.hand fun p q h=>?_;refine⟨X.P.ext x,fun a y e=>?_,⟨p,q,⟨by rw[x H (by rw[h.h];exact Ag _)];exact h.h,by rw[x C (by rw[h.c];exact Ag _)];exact h.c,h.ok,h.sz,h.q0,h.q1⟩⟩,X.nH,X.nC⟩;unfold CT at e;split at e
 ·refine BN (X.K a y e) fun m a2 a3=>?_;exact⟨by rw[x a (by rw[m];exact Ag _)];exact m,a2,a3⟩
 ·rename_i n;have n':σ a=none:=by simpa using n
  exact⟨e,X.P.out n',by rintro rfl;exact Bf ((h.h.symm.trans n'))⟩
theorem At.sub(X:At σ c L K H C cells)(k:∀a x,K' a=some x→K a=some x):At σ c L K' H C cells:=⟨X.P,fun a x e=>X.K a x (k a x e),X.hand,X.nH,X.nC⟩
theorem At.ext0(X:At σ c L K H C cells)(x:Ap σ σ'):At σ' c L K H C cells:=(X.ext x).sub X.le
theorem At.fm(X:At σ c L K H C cells)(P:AS σ' L' c')(F:Fm σ c L σ' c' L'):At σ' c' L' K H C cells:=by
 refine Bx X.hand fun p q h=>?_;refine AL (F.out h.h X.nH) fun h1 h2=>?_;refine AL (F.out h.c X.nC) fun h3 h4=>?_;exact⟨P,fun a x e=>by refine BN (X.K a x e) fun a1 a2 n=>?_;refine AL (F.out a1 a2) fun b1 m=>?_;exact⟨b1,m,n⟩,⟨p,q,⟨h1,h3,h.ok,h.sz,h.q0,h.q1⟩⟩,h2,h4⟩
theorem At.pick(X:At σ c L K H C cells)(k:∀a,a≠H→σ' a=σ a)(h:Iv σ' H C cells p q):At σ' c L K H C cells:=
 ⟨X.P.other fun a f=>k a (by rintro rfl;exact X.nH f),fun a x e=>by refine BN (X.K a x e) fun n a2 m=>?_;exact⟨by rw[k a m];exact n,a2,m⟩,⟨p,q,h⟩,X.nH,X.nC⟩
theorem At.get(X:At σ c L K H C cells)(e:K a=some x):σ a=some x:=(X.K a x e).1
theorem At.out(X:At σ c L K H C cells)(e:K a=some x):¬A6 c L a:=(X.K a x e).2.1
theorem NR(B:Ai)(R:Ah A 1)(X:At σ c L K H C cells){p1 n p3:A8}{e:Expr}{Φ:AV→AA→Prop}(hx:ρ "hand"=some (.ref H)){m:Nat}(hm:0<m)
  (ke:∀{Ψ:AV→AA→Prop},Ψ (.int (m:Nat)) σ→EV A env e ρ σ Ψ)(q:∀r σ',r<m→At σ' c L K H C cells→(∀a,a≠H→σ' a=σ a)→Φ (.int (r:Nat)) σ')
  (h1:autoParam (Cf (env.kindOf "hand")=true) aR)(h2:autoParam (env.kindOf "_law_pick"=some .globalImplicit) aR)(h3:autoParam (env.scope.kind=.function) aR)(h4:autoParam (env.globals=Bh) aR)
  (hp:autoParam (CJ [.Name "hand" n,e]=true) aR)(he:autoParam (∀env,BZ [.Name "hand" n,e] env=(false,A0 (.Name "hand" n) env)::BZ [e] env) aI)(a0:autoParam (∀env,BZ [e] env=(false,A0 e env)::BZ [] env) aI):
  EV A env (.Call (.Name "_law_pick" p1) [.Name "hand" n,e] [] p3) ρ σ Φ:=by
 refine Bx X.hand fun p q0 h=>?_;exact Hr B (WT w) (RW w) (AC.cons (AG hx (AC.cons (ke (AC.nil (WN B R h hm fun r p' q' σ' hr k h'=>q r σ' hr (X.pick k h') k))) a0) h1 h3) he) h2 h3 h4 ⋯ hp
def Ep(nd:Nd):Dat:=.tuple (.str nd.1::nd.2.map fun(k:Nat)=>.int k)
theorem vp(e:Ep a=Ep b):a=b:=by
 obtain⟨x,xs⟩:=a;obtain⟨y,ys⟩:=b;unfold Ep at e;rw[Dat.tuple.injEq,QO,Dat.str.injEq]at e;obtain⟨n,m⟩:=e;dsimp only at n m;refine Prod.ext n ?_;show xs=ys;clear n
 induction xs generalizing ys with
 |nil=>cases ys with|nil=>rfl|cons y ys=>simp at m
 |cons x xs ih=>cases ys with
  |nil=>simp at m
  |cons y ys=>
   rw[CB,CB,QO,Dat.int.injEq]at m;rw[ih _ m.2,i6 m.1]
theorem DQ.node(nd:Nd):DQ σ (Bw nd.key) (Ep nd):=by rw[GH];exact DQ.tup (A4.cons (DQ.str _) (A4.nats _))
theorem Cs.ok{x:Str}(o:Cs x):PyData.strOk x=true:=by rcases o with rfl|rfl|rfl|rfl|rfl<;>decide+kernel
theorem BE.node(o:Cs nd.1):BE 2 (Ep nd):=by
 refine(BE.seq fun d hd=>?_).2;rcases A7.mp hd with rfl|hd
 ·exact o.ok
 ·refine AI (BD.mp hd) fun k n m=>?_;subst m;exact .int _ _
theorem A4.nodes(ns:List Nd):A4 σ (CL ns) (ns.map Ep):=by
 induction ns with
 |nil=>exact A4.nil
 |cons n ns m=>exact A4.cons (DQ.node n) m
theorem bp(f:T→Dat)(xs:List T):Kf (xs.map f)=xs.map fun x=>EO (f x):=by
 induction xs with
 |nil=>rw[List.map_nil,Kf];rfl
 |cons x xs m=>rw[CB,Kf,m];rfl
theorem Zco(k:TR A env t ρ σ fun b m=>Φ (.int (if b=true then i else j)) m):EV A env (.IfExp t (.Constant (.int i) k1 p1) (.Constant (.int j) k2 p2) p3) ρ σ Φ:=
 ND fun s S=>AT (k s S) (fun b s' n=>E0 n fun m g t q=>⟨m,g,t,by cases b<;>exact BB q⟩) fun zz zz e=>e
structure OE(c:HS):Prop where
 S:Dw c
 hab:∀k,AH c.abo k≠none→k<c.uab.length
 num:∀(nd:Nd)(i:Nat),AH c.nums nd=some i↔c.nodes[i]? =some nd
 ops:∀nd∈c.nodes,Cs nd.1
 z:c.nodes.length≤60
 hS:∀(nd:Nd)(w d:Int),Cs nd.1→nd.2.length≤2→(∀k∈nd.2,k<c.nodes.length)→nd∉c.nodes→Dw (FS c nd w d)
def RZ(c c':HS)(nd:Nd):Prop:=(nd∈c.nodes∧c'=c)∨(nd∉c.nodes∧∃w d:Int,c'=(FS c nd w d).lookAt c.nodes.length)
abbrev Fa(ns:List Nd)(nd:Nd):List Nd:=if nd∈ns then ns else ns++[nd]
theorem aL(w:AD):Cj (KK w) Bh "_law_node_more"=some (some (.ref 562)):=∅
theorem mU(B:Ai)(R:Ah A 9)(P:AS σ L c)(O:OE c){nd:Nd}(ho:Cs nd.1)(m:nd.2.length≤2)(hk:∀k∈nd.2,k<c.nodes.length){Φ:AV→AA→Prop}
  (q:∀c' L' σ' (i:Nat),RZ c c' nd→AS σ' L' c'→Fm σ c L σ' c' L'→Φ (.int i) σ'):AF A (.ref 291) [.ref (L .hp),.str nd.1,.tup (nats nd.2)] σ Φ:=by
 have nl:=O.S.nl;have z:=O.z;by_cases h:nd∈c.nodes
 ·refine AX (Tu h) fun i n=>?_;exact xB B (R.lo rfl) P O.S.U ((O.num nd i).mpr n) (by have:=(BX.mp n).1;exact AK this (Ac nl)) (!ln m rfl) (q c L σ i (.inl ⟨h,rfl⟩) P (.refl _ _ _))
 ·have e:AH c.nums nd=none:=by
   cases hq:AH c.nums nd with
   |none=>rfl
   |some i=>exact absurd (C6 ((O.num nd i).mp hq)) h
  exact fQ B R P O.S e m ho hk (!ln z rfl) O.hab (fun w d=>O.hS nd w d ho m hk h) fun w' d L' σ' P' F'=>q _ L' σ' _ (.inr ⟨h,w',d,rfl⟩) P' F'
set_option maxHeartbeats 1000000 in
theorem Yb(B:Ai)(R:Ah A 11)(X:At σ c L K H C cells)(O:OE c)(b6:0<c.nodes.length)(hN:K N=some (.list (CL c.nodes)))
  (q:∀nd c' L' σ' N' K',Cs nd.1→nd.2.length≤2→(∀k∈nd.2,k<c.nodes.length)→RZ c c' nd→At σ' c' L' K' H C cells→(∀a x,K a=some x→K' a=some x)→K' N'=some (.list (CL (Fa c.nodes nd)))→L' .hp=L .hp→Φ (.ref N') σ'):
  AF A (.ref 562) [.ref H,.ref (L .hp),.ref N] σ Φ:=by
 have z:=O.z;have S:=O.S;have nl:=S.nl;refine GQ (F:=(Vf w)) (names:=["hand","heap_now","nodes"]) B R rfl (fun Lf=>?_) (Js fun zz zz zz=>rfl) rfl ∅
 ·refine AJ (BR (CR (Bt (BW (DB (DB ⟨!ld rfl,NR B (R.up rfl) X () (m:=2) (!ld rfl) (fun q=>BB q) fun r b7 hr X1 k1=>?_⟩))))));obtain⟨n,c3,a9⟩:∃n:Str,(n="f"∨n="g")∧([AV.str "f",.str "g"])[((r:Nat):Int).toNat]? =some (.str n):=by
   rw[EN];exact Sl (C:=fun r=>∃n:Str,(n="f"∨n="g")∧([AV.str "f",.str "g"])[r]? =some (.str n)) hr ⟨_,.inl rfl,rfl⟩ ⟨_,.inr rfl,rfl⟩
  have a6:Cs n:=by rcases c3 with rfl|rfl<;>simp[Cs]
  refine⟨⟨_,_,.tup⟩,Fc (!A5 o0) a9 (!A5 f6 hr) (A2 ?_)⟩;obtain⟨m,hm,a8⟩:∃m:Nat,m≤2∧(if(n==("f":Str))=true then 1 else 2)=m:=⟨_,by split<;>(first|exact CX wX|exact CX yq),rfl⟩
  have e1:put (B4 ["hand","heap_now","nodes"] [.ref H,.ref (L .hp),.ref N]) "op" (.str n) "op"=some (.str n):=As;have e2:put (B4 ["hand","heap_now","nodes"] [.ref H,.ref (L .hp),.ref N]) "op" (.str n) "hand"=some (.ref H):=by rw[AN ⋯];rfl
  have e3:put (B4 ["hand","heap_now","nodes"] [.ref H,.ref (L .hp),.ref N]) "op" (.str n) "heap_now"=some (.ref (L .hp)):=by rw[AN ⋯];rfl
  have e4:put (B4 ["hand","heap_now","nodes"] [.ref H,.ref (L .hp),.ref N]) "op" (.str n) "nodes"=some (.ref N):=by rw[AN ⋯];rfl
  generalize put (B4 ["hand","heap_now","nodes"] [.ref H,.ref (L .hp),.ref N]) "op" (.str n)=ρ1 at*;have c6:=X1.get hN;refine Bx X1.hand fun p1 q1 h1=>?_;refine AJ (BR (CE (Bt (Aa (AG e1 ⟨!Cu _,Ez B (I3 w) JD (Aa (Sx R.handled (LY (Fd B (Ip w) JM ⟨rfl,Aa (Zco (Bg (AG e1 (DB (Jc (BO ?_))))))⟩ ⋯ () () () ())) ()))⟩)))));refine⟨m,by rw[←a8];split<;>rfl,!ln (CD hm) rfl,⟨_,_,rfl⟩,m,fun i ys σ'=>i≤m∧At σ' c L K H C cells∧(∀a,a≠H→σ' a=b7 a)∧∃ks:List Nat,ys=nats ks∧ks.length=i∧∀k∈ks,k<c.nodes.length,⟨!Bc _,X1,fun zz zz=>rfl,[],rfl,rfl,by simp⟩,!ln hm rfl,?_⟩;rintro i ys a5 ⟨hi,X2,k2,ks,rfl,a0,a3⟩;refine⟨hi,_,rfl,?_⟩;by_cases a4:i<m
  ·rw[if_pos a4];intro Cc;refine NR B (R.up rfl) X2 (by rw[AN ⋯,FY ⋯];exact e2) (m:=c.nodes.length) b6 (fun{Ψ} qq=>Bl B (CW w) CV (Aa (AG (by rw[AN ⋯,FY ⋯];exact e4) (Ce (X2.get hN) (by rw[AU];exact ln z rfl) (by rw[AU];exact qq))))) fun r3 c5 c2 X3 k3=>?_;refine⟨!a4,X3,fun a h=>by rw[k3 a h,k2 a h],ks++[r3],by simp,by simp[a0],fun k hk=>?_⟩;rcases B9.mp hk with h|h
   ·exact a3 k h
   ·rw[Aq.mp h];exact c2
  ·rw[if_neg a4];intro D nD nb;obtain rfl:i=m:=by exact Ej hi (EM a4)
   have x3:Ap a5 (upd a5 D (.list (nats ks))):=.new nD;have hD:upd a5 D (.list (nats ks)) D=some (.list (nats ks)):=Ao _ _ _;have X3:=X2.ext0 x3;generalize upd a5 D (.list (nats ks))=c5 at*;refine LZ hD (by rw[AU];exact ln (AK (Ac a0) hm) rfl) (NN (by rw[AU];simp;exact Am Zak a0 hm) (A2 ?_));have f1:put ρ1 "node" (.tup ([.str n]++nats ks)) "node"=some (.tup (.str n::nats ks)):=As;have f2:∀{y:Str},y≠("node":Str)→put ρ1 "node" (.tup ([.str n]++nats ks)) y=ρ1 y:=fun h=>AN h;generalize put ρ1 "node" (.tup ([.str n]++nats ks))=ρ2 at*;have P3:=X3.P;refine AJ (Be (Bq B (by rw[f2 ⋯];exact e3) P3.iH () (cy w) (SQ w) (BW (AG (by rw[f2 ⋯];exact e1) (NS f1 (by rw[AU];exact ln (AK (Ac a0) hm) rfl) ?_)))));refine mU (nd:=(n,ks)) B (R.up rfl) P3 O a6 (by show ks.length≤2;exact AK (Ac a0) hm) a3 fun c4 L4 a1 zz hM P4 F4=>?_;have X4:=X3.fm P4 F4;have kv:AV.tup (.str n::nats ks)=Bw (Nd.key (n,ks)):=(GH (n,ks)).symm;rw[kv]at f1;refine AJ (B8 (ND (Bg (AG f1 (AG (by rw[f2 ⋯];exact e4) ?_)))));have dN:DQ a1 (.ref N) (.list (c.nodes.map Ep)):=DQ.list (X4.get hN) (A4.nodes _);unfold DQ at dN;rw[EO,bp]at dN;have c1:BE 3 (.list (c.nodes.map Ep)):=(BE.seq fun d hd=>by refine AI (BD.mp hd) fun nd a7 b1=>?_;subst b1;exact BE.node (O.ops nd a7)).1;have b2:=MV (!ld rfl) c1;rw[EO,bp]at b2;have b4:BE 2 (Ep (n,ks)):=BE.node a6;refine Zch (R.up rfl) (DQ.node (n,ks)) dN (MV (!ld rfl) b4) b2 (BO ?_);have b3:((c.nodes.map fun x=>EO (Ep x)).any fun y=>HQ y (EO (Ep (n,ks))))=decide ((n,ks)∈c.nodes):=by
    rw[List.any_map];have:∀nd∈c.nodes,((fun y=>HQ y (EO (Ep (n,ks))))∘fun x=>EO (Ep x)) nd=decide (nd=(n,ks)):=fun nd a7=>by
     show HQ (EO (Ep nd)) (EO (Ep (n,ks)))=_;refine AL (PQ (BE.node (O.ops nd a7)) b4) fun q1 q2=>?_;by_cases h:nd=(n,ks)
     ·rw[q1 (by rw[h]),decide_eq_true h]
     ·rw[q2 (fun e=>h (vp e)),decide_eq_false h]
    rw[Bool.eq_iff_iff,List.any_eq_true,decide_eq_true_eq];constructor
    ·rintro⟨nd,h1,h2⟩;rw[this nd h1,decide_eq_true_eq]at h2;exact h2▸h1
    ·intro h1;exact⟨_,h1,by rw[this _ h1];simp⟩
   rw[b3];by_cases a2:(n,ks)∈c.nodes
   ·refine CN (decide_eq_true a2) ?_;refine AG (by rw[f2 ⋯];exact e4) (q (n,ks) c4 L4 a1 N K a6 (by show ks.length≤2;exact AK (Ac a0) hm) a3 hM X4 (fun zz zz e=>e) ?_ F4.root);unfold Fa;rw[if_pos a2];exact hN
   ·refine Ba (decide_eq_false a2) ?_;refine CE (AG (by rw[f2 ⋯];exact e4) (DU (Aa (AG f1 ⟨!Cu _,fun E nE c9=>?_⟩))));have y1:Ap a1 (upd a1 E (.list [Bw (Nd.key (n,ks))])):=.new nE;have hE:upd a1 E (.list [Bw (Nd.key (n,ks))]) E=some (.list [Bw (Nd.key (n,ks))]):=Ao _ _ _;have X5:=X4.ext0 y1;generalize upd a1 E (.list [Bw (Nd.key (n,ks))])=σ5 at*;refine KN (X5.get hN) hE (by rw[AU];simp;exact ln z rfl) fun D5 b0 c8=>?_;have y2:Ap σ5 (upd σ5 D5 (.list (CL c.nodes++[Bw (Nd.key (n,ks))]))):=.new b0;have b5:upd σ5 D5 (.list (CL c.nodes++[Bw (Nd.key (n,ks))])) D5=some (.list (CL c.nodes++[Bw (Nd.key (n,ks))])):=Ao _ _ _;refine q (n,ks) c4 L4 _ D5 _ a6 (by show ks.length≤2;exact AK (Ac a0) hm) a3 hM (X5.ext y2) X5.le ?_ F4.root;unfold Fa;rw[if_neg a2];unfold CT;rw[b0];show _=some (AO.list (Il _ (c.nodes++[(n,ks)])));rw[Cr];exact b5
end
section
variable {nodes:List Nd} {pairs:List (Nat×Nat)} {hs:List Nat} {c c':HS}
def CC(nodes:List Nd)(pairs:List (Nat×Nat))(i j:Nat):Prop:=∀E,Kl nodes pairs E→E i j
theorem CC.refl(i:Nat):CC nodes pairs i i:=fun E C=>C.refl i
theorem CC.symm(h:CC nodes pairs i j):CC nodes pairs j i:=fun E C=>C.symm _ _ (h E C)
theorem CC.trans(h:CC nodes pairs i j)(h':CC nodes pairs j k):CC nodes pairs i k:=fun E C=>C.trans _ _ _ (h E C) (h' E C)
theorem CC.more(k:∀p∈pairs,p∈ps∨p.1=p.2)(h:CC nodes pairs i j):CC nodes ps i j:=fun E C=>h E ⟨C.refl,C.symm,C.trans,fun p hp=>(k p hp).elim (C.told p) fun e=>e▸C.refl _,C.cong⟩
theorem cj{h:Nat→Nat}(a:DZ (fun i j=>h i=h j) xs ys):xs.map h=ys.map h:=by
 induction a with
 |nil=>rfl
 |cons e r m=>rw[CB,CB,e,m]
theorem MZ.cc(X:MZ nodes pairs hs)(hi:i<nodes.length)(hj:j<nodes.length):AZ hs i=AZ hs j↔CC nodes pairs i j:=by
 constructor
 ·intro e E C;have a:=X.sound E C i hi;have b:=X.sound E C j hj;rw[e]at a;exact C.trans _ _ _ a (C.symm _ _ b)
 ·intro h;exact h (fun i j=>AZ hs i=AZ hs j) ⟨fun zz=>rfl,fun zz zz e=>e.symm,fun zz zz zz a b=>a.trans b,X.told,fun i j m n e1 e2 e3 e4=>X.cong i j m n e1 e2 (Prod.ext e3 (cj e4))⟩
theorem Yu(f:Nat→Nat)(cs:List Nat)(k:Nat):AH (CP f cs) k=if cs.filter (fun a=>f a=k)=[]then none else some (cs.filter fun a=>f a=k):=by
 induction h:cs.length generalizing cs with
 |zero=>rw[jE.mp h];rfl
 |succ n ih=>
  obtain⟨m,a,rfl⟩:∃m a,cs=m++[a]:=by
   rcases Tq cs with rfl|⟨x,y,e⟩
   ·cases h
   ·exact⟨x,y,by rw[e,Ts]⟩
  rw[VG,Gj,Di,ih m (by simpa using h),iJ];by_cases e:k=f a
  ·subst e;rw[if_pos rfl,ih m (by simpa using h)];have:List.filter (fun b=>decide (f b=f a)) [a]=[a]:=by simp
   rw[this];split
   ·rename_i q;rw[q];exact rfl
   ·rw[if_neg (by simp)];rfl
  ·rw[if_neg e];have:List.filter (fun b=>decide (f b=k)) [a]=[]:=by simp[Ne.symm e]
   rw[this,TX]
theorem tn{f h:Nat→Nat}{cs a0:List Nat}(ac:cs.Pairwise (· <·))(ah:a0.Pairwise (· <·))(k1:∀a∈cs,∀b∈cs,(f a=f b↔h a=h b))(k2:∀z,z∈a0↔z∈cs∧h z=z)(k3:∀a∈cs,h a∈cs∧h (h a)=h a∧h a≤a):
  (CP f cs).map (·.2)=a0.map fun z=>cs.filter fun a=>h a=z:=by
 refine IG (Yd f ac) fun ks g0 g1 g2 g3=>?_;have gv:∀p∈CP f cs,p.2=cs.filter (fun a=>f a=p.1)∧p.2≠[]:=fun p hp=>by
  have:=Wm g0 (show(p.1,p.2)∈CP f cs from hp);rw[Yu]at this;split at this
  ·exact Au this
  ·rename_i q;have e:=An this;exact⟨e.symm,by rw[←e];exact q⟩
 have n:(CP f cs).map (fun p=>p.2.head?.getD 0)=ks:=by
  have:=congrArg (Il fun o:Option Nat=>o.getD 0) g1;rw[Bu,Bu]at this;rw[show ks.map ((fun o:Option Nat=>o.getD 0)∘some)=ks from QQ ks]at this;exact this
 have hd:∀p∈CP f cs,∃z,p.2.head? =some z∧z∈cs∧f z=p.1∧h z=z:=fun p hp=>by
  refine AL (gv p hp) fun e1 e2=>?_;cases hq:p.2 with
  |nil=>exact absurd hq e2
  |cons z r=>
   have hz:z∈cs.filter (fun a=>f a=p.1):=by rw[←e1,hq];exact .head _
   refine AL (Dd.mp hz) fun z1 z2=>?_;have z2:f z=p.1:=by simpa using z2
   refine⟨z,rfl,z1,z2,?_⟩;refine BN (k3 z z1) fun m1 m2 m3=>?_;have hm:h z∈p.2:=by
    rw[e1];refine Dd.mpr ⟨m1,?_⟩;have:=(k1 (h z) m1 z z1).mpr m2;simp[this,z2]
   rw[hq]at hm;rcases A7.mp hm with e|hm
   ·exact e
   ·have a2:(z::r).Pairwise (· <·):=by rw[←hq,e1];exact ac.filter _
    have:=(Jm.mp a2).1 _ hm;exact Ej m3 (Ct this)
 have a3:ks=a0:=by
  refine UF g2 ah fun z=>?_;rw[←n,k2];constructor
  ·intro m;refine AI (BD.mp m) fun p hp a1=>?_;subst a1;refine IG (hd p hp) fun z e z1 _ z3=>?_;rw[e];exact⟨z1,z3⟩
  ·rintro⟨z1,z2⟩;have ne:cs.filter (fun a=>f a=f z)≠[]:=fun e=>by
    have:z∈cs.filter (fun a=>f a=f z):=Dd.mpr ⟨z1,by simp⟩;rw[e]at this;cases this
   have hl:=Yu f cs (f z);rw[if_neg ne]at hl;have hp:=LH hl;refine IG (hd _ hp) fun y e y1 y2 y3=>?_;refine BD.mpr ⟨_,hp,?_⟩;rw[e];show y=z;have:=(k1 y y1 z z1).mp y2;rw[←y3,←z2,this]
 rw[←a3,←n,Bu];refine Dr fun p hp=>?_;refine IG (hd p hp) fun z e z1 z2 z3=>?_;show p.2=cs.filter fun a=>decide (h a=p.2.head?.getD 0);refine AL (gv p hp) fun e1 _=>?_;rw[e];show p.2=_;rw[e1];refine Tn fun a ha=>?_;show decide (f a=p.1)=decide (h a=z);rw[←z2];have:=k1 a ha z z1;rw[z3]at this;exact decide_eq_decide.mpr this
variable {σ σ' σ'' τ:AA} {A:Ab} {env:Af} {ρ:AW} {L L':AY} {K:AA} {H C:AB} {cells:List Int} {l:List Af} {told:List (Nat×Nat)} {Bv:HS→Prop} {ph:Dat}
structure FU(Bv:HS→Prop)(nodes:List Nd)(told:List (Nat×Nat))(ph:Dat):Prop where
 nds:∀c,Bv c→c.nodes=nodes
 pht:∀c,Bv c→JZ c=ph
 S:∀c,Bv c→Dw c
 ed:∀c,Bv c→∀e∈c.edges,G6 e
 mrk:∀c,Bv c→c.marks.length≤900
 z:nodes.length≤60
 pos:0<nodes.length
 dup:nodes.Nodup
 tin:∀p∈told,p.1<nodes.length∧p.2<nodes.length
 tz:told.length≤100
 root:∀c,Bv c→∀x<nodes.length,CC nodes told (c.find x) x
 tri:∀c,Bv c→∀ps:List (Nat×Nat),(∀p∈ps,p.1<nodes.length∧p.2<nodes.length)→ps.length≤8→
  ∃Mid,SY c ps Mid Bv∧∀c',Mid c'→By c'.uab∧c'.uab.length=c.uab.length∧∀i j,i<nodes.length→j<nodes.length→(c'.find i=c'.find j↔CC nodes (told++ps) i j)
theorem FU.len(G:FU Bv nodes told ph)(g:Bv c):c.uab.length=nodes.length:=by rw[←(G.S c g).nl,G.nds c g]
theorem FU.kid(G:FU Bv nodes told ph)(g:Bv c)(h:nd∈nodes):nd.2.length≤2∧∀k∈nd.2,k<nodes.length:=by
 refine AX (Tu h) fun i m=>?_;have:=(G.S c g).kids i nd (by rw[G.nds c g];exact m);rw[G.len g]at this;exact this
theorem FU.ok(G:FU Bv nodes told ph)(g:Bv c):BE 5 ph:=by rw[←G.pht c g];exact pT (G.ed c g)
theorem FU.home(G:FU Bv nodes told ph)(g:Bv c)(X:MZ nodes (told++ps) hs){z:Nat}(m:z<nodes.length)(e:AZ hs z=z):z∈BU c:=by
 have n:=G.len g;have U:=(G.S c g).U;have h1:=G.root c g z m;have hf:c.find z<nodes.length:=by rw[←n];exact gX U (!AK m (Ac n.symm))
 have h2:=(X.cc hf m).mpr (h1.more fun p hp=>.inl (Jh _ hp));have h3:=X.le (c.find z);have h4:c.find z≤z:=Jt c.uab z;have h5:c.find z=z:=by exact Ej h4 (AK (AK (Ac e.symm) (Ac h2.symm)) h3)
 have h6:=M9 U (a:=z) (!AK m (Ac n.symm));rw[h5]at h6;exact Dd.mpr ⟨MA.mpr (!AK m (Ac n.symm)),by simp[h6]⟩
theorem FU.lots(G:FU Bv nodes told ph)(g:Bv c)(X:MZ nodes (told++ps) hs)(hf:∀i j,i<nodes.length→j<nodes.length→(f i=f j↔CC nodes (told++ps) i j)):
  Md f (BU c)=((Internal.ss hs).map fun z=>(BU c).filter fun a=>AZ hs a=z).filter fun l=>decide (1<l.length):=by
 have hl:=G.len g;have n:∀a∈BU c,a<nodes.length:=fun a ha=>by rw[←hl];exact Qn ha
 have:=tn (f:=f) (h:=AZ hs) (dP c) (Pd hs) (fun a ha b hb=>(hf a b (n a ha) (n b hb)).trans (X.cc (n a ha) (n b hb)).symm) (fun z=>?_) (fun a ha=>?_)
 ·unfold Md;rw[←this,Jl];rfl
 ·rw[M5];constructor
  ·intro m;obtain⟨i,hi,e⟩:=List.mem_iff_getElem.mp m;have e2:AZ hs i=z:=by simp[AZ,hi,e]
   have a1:z<nodes.length:=by have:=X.le i;have:=X.len;exact Hq v4 hi e2 (by assumption) this
   have e3:AZ hs z=z:=by rw[←e2];exact X.idem i
   exact⟨G.home g X a1 e3,e3⟩
  ·rintro⟨m,e⟩;have:=n z m;have h2:=PZ (hs:=hs) (i:=z) (by rw[X.len];exact this);rw[e]at h2;exact C6 h2
 ·have a0:=n a ha;have h1:=X.le a;exact⟨G.home g X (!AK (CD h1) a0) (X.idem a),X.idem a,h1⟩
theorem At.photo(B:Ai)(R:Ah A 5)(X:At σ c L K H C cells)(G:FU Bv nodes told ph)(g:Bv c)(hN:K N=some (.list (CL nodes)))
  (q:∀v σ',Ap σ σ'→At σ' c L (CT K σ σ') H C cells→DQ (CT K σ σ') v ph→Φ v σ'):AF A (.ref 545) [.ref (L .hp),.ref N] σ Φ:=by
 have e:=G.nds c g;refine oO B R X.P (G.S c g) (by rw[e];exact X.get hN) (G.ed c g) (by have:=G.mrk c g;exact ln this rfl) (by rw[e];have:=G.z;exact ln this rfl) fun v σ' x d=>q v σ' x (X.ext x) ?_;rw[G.pht c g]at d;exact d.le (ve K)
end
section
variable {σ σ' σ'' τ:AA} {A:Ab} {env:Af} {ρ:AW} {c c':HS} {L L':AY} {K:AA} {H C:AB} {cells:List Int} {l:List Af} {nodes:List Nd} {told:List (Nat×Nat)} {hs:List Nat} {Bv:HS→Prop} {ph:Dat}
theorem uq(w:AD):Cj (KK w) Bh "_law_pair"=some (some (.ref 535)):=∅
theorem XF(B:Ai)(R:Ah A 2)(X:At σ c L K H C cells)(hN:K N=some (.list (CL nodes)))(hn:0<nodes.length)(hz:nodes.length≤60)(hx:ρ "hand"=some (.ref H))(hy:ρ "nodes"=some (.ref N))
  (q:∀a b σ',a<nodes.length→b<nodes.length→At σ' c L K H C cells→Φ (.tup [.int (a:Nat),.int (b:Nat)]) σ')
  (h1:autoParam (Cf (env.kindOf "hand")=true) aR)(n:autoParam (Cf (env.kindOf "nodes")=true) aR)(h2:autoParam (env.kindOf "_law_pair"=some .globalImplicit) aR)(h3:autoParam (env.scope.kind=.function) aR)(h4:autoParam (env.globals=Bh) aR):
  EV A env (.Call (.Name "_law_pair" p1) [.Name "hand" p2,.Name "nodes" p3] [] p4) ρ σ Φ:=by
 refine Bx X.hand fun p q0 h=>?_;refine Hr B (uq w) (YS w) (BW (AG hx (AG hy ?_ n h3) h1 h3)) h2 h3 h4 ⋯ ();refine Zah B R h (X.get hN) (by rw[AU];exact hn) (by rw[AU];exact ln hz rfl) fun a b p' q' σ' ha m k h'=>?_;rw[AU]at ha m;exact q a b σ' ha m (X.pick k h')
theorem Za0(ps:List (Nat×Nat))(a b:Nat):A1 (ps.map Ay)++[AV.tup [.int (a:Nat),.int (b:Nat)]]=A1 ((ps++[(a,b)]).map Ay):=by simp
theorem Iy{K K' m:AA}(a:∀x y,K x=some y→K' x=some y)(b:∀x y,K' x=some y→m x=some y):∀x y,K x=some y→m x=some y:=fun x y e=>b x y (a x y e)
theorem Gh(n:σ D=none)(e:σ' D=some x):CT K σ σ' D=some x:=by unfold CT;rw[n];exact e
theorem Wy(B:Ai)(R:Ah A 5)(X:At σ c L K H C cells)(G:FU Bv nodes told ph)(g:Bv c)(hN:K N=some (.list (CL nodes)))(dv:DQ K v ph)(hh:L .hp=hp)
  (hx:ρ "heap_now"=some (.ref hp))(hy:ρ "nodes"=some (.ref N))(hv:ρ "photo"=some v)(q:∀σ',At σ' c L K H C cells→Φ false σ')
  (h1:autoParam (Cf (env.kindOf "heap_now")=true) aR)(a1:autoParam (Cf (env.kindOf "nodes")=true) aR)(m:autoParam (Cf (env.kindOf "photo")=true) aR)(h2:autoParam (env.kindOf "_law_photo"=some .globalImplicit) aR)(n:autoParam (env.scope.kind=.function) aR)(h4:autoParam (env.globals=Bh) aR):
  TR A env (.Compare (.Call (.Name "_law_photo" p1) [.Name "heap_now" p2,.Name "nodes" p3] [] p4) [.NotEq] [.Name "photo" p5] p6) ρ σ Φ:=by
 subst hh;refine Bg (Hr B (aJ w) (VU w) (BW (AG hx (AG hy ?_ a1 n) h1 n)) h2 n h4 ⋯ ()) ();refine X.photo B R G g hN fun u a0 x1 X1 d1=>AG hv ?_ m n;exact XI (R.lo rfl) (d1.le fun a x e=>X1.get e) (dv.le fun a x e=>X1.get (X.le a x e)) (G.ok g) (G.ok g) (!ld rfl) (!ld rfl) (fun zz=>BO (q a0 (X1.sub X.le))) fun ne=>absurd rfl ne
theorem sc:CC nodes (told++(ps++[(a,a),(b,b)])) i j↔CC nodes (told++ps) i j:=by
 constructor
 ·refine CC.more fun p hp=>?_;simp only[B9,A7,HR,or_false]at hp ⊢;rcases hp with h|h|rfl|rfl
  ·exact .inl (.inl h)
  ·exact .inl (.inr h)
  ·exact .inr rfl
  ·exact .inr rfl
 ·refine CC.more fun p hp=>.inl ?_;simp only[B9]at hp ⊢;rcases hp with h|h
  ·exact .inl h
  ·exact .inr (.inl h)
structure OS(K:AA)(n:Nat)(v:AV):Prop where
 ex:∃(l:AB)(ps:List (Int×Int))(m:Int)(whole:Bool)(N:Nat)(i0:Int),v=.tup [.ref l,.int m,.bool whole]∧K l=some (.list (A1 ps))∧ps.length≤800∧Mn n (B6 (if whole then ps else ps++[(m,m),(0,0)])) N i0
def Zba{m n a2}{c:Prop}:=@OS.casesOn m n a2 (fun zz=>c)
theorem Ui(a b:List (Int×Int)):B6 (a++b)=B6 a++B6 b:=by unfold B6;rw[Cr,Ze0]
theorem R5{n:Nat}{is js:List Int}{m:Int}(h:∀i∈is,0≤i∧i<(n:Int))(h0:js.head? =some m)(hb:¬(0≤m∧m<(n:Int)))(hs:m.natAbs<1000):Mn n (is++js) is.length m:=by
 refine⟨?_,hb,hs,fun j x hj e=>?_⟩
 ·rw[Ik (A9 _),QR];cases js with
  |nil=>exact Au h0
  |cons y ys=>exact h0
 ·rw[El hj]at e;exact h x (C6 e)
set_option maxHeartbeats 2000000 in
def VY(σ:AA)(A:Ab)(c:HS)(L:AY)(K:AA)(H:AB)(C:AB)(cells:List Int)(l:List Af)(nodes:List Nd)(told:List (Nat×Nat))(Bv:HS→Prop)(N:AB)(m:AB)(t:AB)(dx:AB)(Φ:AV→AA→Prop):Prop:=∀{ph:Dat}(B:Ai)(R:Ah A 14)(al:Kx A σ l)(X:At σ c L K H C cells)(G:FU Bv nodes told ph)(g:Bv c)(hN:K N=some (.list (CL nodes)))(n:K m=some (.list (A1 (told.map Ay))))(T:Cq K t dx (L .hp))(fk:∀b∈fl l,∃o,K b=some (.frz o))(q:∀c' L' σ',Bv c'→At σ' c' L' K H C cells→L' .hp=L .hp→Φ (.bool true) σ'),AF A (.ref 557) [.ref H,.ref t,.ref N,.ref m] σ Φ
def ag:((((AA×Ab)×HS)×(AY×AA))×((AB×AB)×(List Int×List Af)))×(((List Nd×(List (Nat×Nat)))×((HS→Prop)×AB))×((AB×AB)×(AB×(AV→AA→Prop))))→Prop:=fun t=>VY t.1.1.1.1.1 t.1.1.1.1.2 t.1.1.1.2 t.1.1.2.1 t.1.1.2.2 t.1.2.1.1 t.1.2.1.2 t.1.2.2.1 t.1.2.2.2 t.2.1.1.1 t.2.1.1.2 t.2.1.2.1 t.2.1.2.2 t.2.2.1.1 t.2.2.1.2 t.2.2.2.1 t.2.2.2.2
def Et:=zE ag ((((((fun _=>none),{}),Dy),((fun _=>0),(fun _=>none))),((0,0),([],[]))),((([],[]),((fun _=>True),0)),((0,0),(0,(fun _ _=>True)))))
def Jx:=Et.1.1.1.1.1
def aN:=Et.1.1.1.1.2
def Ko:=Et.1.1.1.2
def H7:=Et.1.1.2.1
def WK:=Et.1.1.2.2
def KA:=Et.1.2.1.1
def Mg:=Et.1.2.1.2
def Mj:=Et.1.2.2.1
def FQ:=Et.1.2.2.2
def C3:=Et.2.1.1.1
def MR:=Et.2.1.1.2
def uj:=Et.2.1.2.1
def SW:=Et.2.1.2.2
def VN:=Et.2.2.1.1
def IB:=Et.2.2.1.2
def J4:=Et.2.2.2.1
def yH:=Et.2.2.2.2
set_option maxHeartbeats 2000000 in
theorem qy:VY Jx aN Ko H7 WK KA Mg Mj FQ C3 MR uj SW VN IB J4 yH:=fun{ph} B R al X G g hN hT T fk q=>by
 have z:=G.z;have e9:=G.pos;have tz:=G.tz;refine GQ (F:=(bP w)) (names:=["hand","trial","nodes","told"]) B R rfl (fun Lf=>?_) (LL fun zz zz zz zz=>rfl) rfl ∅
 ·have T0:∀{Jx Ko L'},At Jx Ko L' WK KA Mg Mj→Cq Jx IB J4 (H7 .hp):=fun X=>⟨X.get T.1,X.get T.2⟩;refine AJ (NI (names:=["heap_now","photo","far"]) R.handled () (Bt (GP (BM B () (T0 X) (FX w) FW (Hr B (aJ w) (VU w) (BW (BM B () (T0 X) (FX w) FW (AG () ?_))))))));refine X.photo B (R.up rfl) G g hN fun v r6 x1 X1 d1=>?_;refine Bl B (CW w) CV (Aa (AG () (Ce (X1.get (X.le _ _ hN)) (by rw[AU];exact ln z rfl) ⟨!ld rfl,_,.tup _,rfl,BY (GN () (BY (GN () (BY (GN () (Da ?_))))))⟩)));rw[AU];have k1:=X.le (σ':=r6);generalize CT WK Jx r6=K1 at*;have z4:=k1 _ _ hN;have hT1:=k1 _ _ hT;have T1:Cq K1 IB J4 (H7 .hp):=⟨k1 _ _ T.1,k1 _ _ T.2⟩;have T1':∀{Jx Ko L'}{K':AA},(∀a x,K1 a=some x→K' a=some x)→At Jx Ko L' K' KA Mg Mj→Cq Jx IB J4 (H7 .hp):=fun k X=>⟨X.get (k _ _ T1.1),X.get (k _ _ T1.2)⟩;generalize c3:put (put (put (B4 ["hand","trial","nodes","told"] [.ref KA,.ref IB,.ref SW,.ref VN]) "far" (.int (C3.length:Nat))) "photo" v) "heap_now" (.ref (H7 .hp))=ρ1;have a1:ρ1 "hand"=some (.ref KA):=by rw[←c3];rfl
  have a2:ρ1 "trial"=some (.ref IB):=by rw[←c3];rfl
  have a3:ρ1 "nodes"=some (.ref SW):=by rw[←c3];rfl
  have a4:ρ1 "told"=some (.ref VN):=by rw[←c3];rfl
  have a5:ρ1 "far"=some (.int (C3.length:Nat)):=by rw[←c3];rfl
  have a6:ρ1 "photo"=some v:=by rw[←c3];rfl
  have a7:ρ1 "heap_now"=some (.ref (H7 .hp)):=by rw[←c3];rfl
  clear c3;refine AJ (XG R.handled (LY (Fd B (Ip w) JM ⟨rfl,Aa (NR B (R.up rfl) X1 a1 (m:=3) (!ld rfl) (fun q=>BB q) fun r σ2 hr X2 s2=>⟨r,rfl,!ln hr rfl,⟨_,_,rfl⟩,r,
   fun i ys σ'=>i≤r∧At σ' Ko H7 K1 KA Mg Mj∧∃ps:List (Nat×Nat),ys=A1 (ps.map Ay)∧ps.length=i∧∀p∈ps,p.1<C3.length∧p.2<C3.length,⟨!Bc _,X2,[],rfl,rfl,by simp⟩,!ln (Ct hr) rfl,?_⟩)⟩ ⋯ () () () ())) ())
  rintro i ys d3 ⟨hi,X3,ps,rfl,c6,c1⟩;refine⟨hi,_,rfl,?_⟩;by_cases f4:i<r
  ·rw[if_pos f4];intro Cc;refine XF B (R.up rfl) X3 z4 e9 z (by rw[AN ⋯,FY ⋯];exact a1) (by rw[AN ⋯,FY ⋯];exact a3) fun a b r2 ha c2 X4=>?_;refine⟨!f4,X4,ps++[(a,b)],Za0 ps a b,by simp[c6],fun p hp=>?_⟩;rcases B9.mp hp with h|h
   ·exact c1 p h
   ·rw[Aq.mp h];exact⟨ha,c2⟩
  rw[if_neg f4];intro D nD nbD;have x4:Ap d3 (upd d3 D (.list (A1 (ps.map Ay)))):=.new nD;have X4:=X3.ext x4;have k2:=X3.le (σ':=upd d3 D (.list (A1 (ps.map Ay))));have hD:CT K1 d3 (upd d3 D (.list (A1 (ps.map Ay)))) D=some (.list (A1 (ps.map Ay))):=Gh nD (Ao _ _ _);generalize upd d3 D (.list (A1 (ps.map Ay)))=r2 at*;generalize CT K1 d3 r2=K2 at*;refine A2 ?_;have h9:=Iy k1 k2;have hD1:=hD;have hp2:∀p∈MR++ps,p.1<C3.length∧p.2<C3.length:=fun p hp=>(B9.mp hp).elim (G.tin p) (c1 p);have p7:ps.length≤2:=by exact BS kL hr hi c6
  have b0:put ρ1 "pairs" (.ref D) "pairs"=some (.ref D):=As;have bo:∀{y:Str},y≠("pairs":Str)→put ρ1 "pairs" (.ref D) y=ρ1 y:=fun h=>AN h;generalize put ρ1 "pairs" (.ref D)=ρ2 at*;rw[←bo ⋯]at a1 a2 a3 a4 a5 a6 a7;clear bo;refine AJ (BR (XF B (R.up rfl) X4 (h9 _ _ hN) e9 z a1 a3 fun a b i2 ha c2 X5=>?_));refine Ex R.handled (.tup _) rfl (BY (A2 (BY (A2 (Da ?_)))));have a8:put (put ρ2 "a" (.int (a:Nat))) "b" (.int (b:Nat)) "a"=some (.int (a:Nat)):=by rw[AN ⋯];exact As
  have a9:put (put ρ2 "a" (.int (a:Nat))) "b" (.int (b:Nat)) "b"=some (.int (b:Nat)):=As;have bo:∀{y:Str},y≠("a":Str)→y≠("b":Str)→put (put ρ2 "a" (.int (a:Nat))) "b" (.int (b:Nat)) y=ρ2 y:=fun h h'=>by rw[AN h',AN h]
  generalize put (put ρ2 "a" (.int (a:Nat))) "b" (.int (b:Nat))=ρ3 at*;rw[←bo ⋯ ⋯]at a1 a2 a3 a4 a5 a6 a7 b0;clear bo;have hT5:=X5.get (h9 _ _ hT);have l3:=X5.get hD;refine AJ (BR (Hr B (Zg w) (Um w) (BW (AG a3 (CE (AG a4 (AG b0 (KN hT5 l3 (by rw[AU,AU,AU,AU];exact Cb pK tz hr hi c6) fun E nE nbE=>?_))))))));have x6:Ap i2 (upd i2 E (.list (A1 (MR.map Ay)++A1 (ps.map Ay)))):=.new nE;have hE:upd i2 E (.list (A1 (MR.map Ay)++A1 (ps.map Ay))) E=some (.list (A1 ((MR++ps).map Ay))):=by rw[Ao];simp
  have X6:=X5.ext0 x6;generalize upd i2 E (.list (A1 (MR.map Ay)++A1 (ps.map Ay)))=σ6 at*;refine cw B (R.up rfl) (X6.get (h9 _ _ hN)) hE G.dup (fun nd m7=>(G.kid g m7).2) (fun nd m7=>by have:=(G.kid g m7).1;exact ln this rfl) hp2 z (by rw[BJ];exact Cb sA tz hr hi c6) fun Db hs k0 x7 z6 hDb Hs=>A2 ?_;have X7:=X6.ext x7;have k3:=X6.le (σ':=k0);have l8:CT K2 σ6 k0 Db=some (.list (nats hs)):=Gh z6 hDb;generalize CT K2 σ6 k0=K3 at*;have e6:=Iy h9 k3;have n0:=k3 _ _ hD;have c0:put ρ3 "behind" (.ref Db) "behind"=some (.ref Db):=As;have bo:∀{y:Str},y≠("behind":Str)→put ρ3 "behind" (.ref Db) y=ρ3 y:=fun h=>AN h;generalize put ρ3 "behind" (.ref Db)=ρ4 at*;rw[←bo ⋯]at a1 a2 a3 a4 a5 a6 a7 b0 a8 a9;clear bo;have g3:=Hs.len;refine AI (G.tri Ko g (ps++[(a,a),(b,b)]) (fun p hp=>by
   rcases B9.mp hp with h|h
   ·exact c1 p h
   ·simp only[A7,HR,or_false]at h;rcases h with rfl|rfl
    ·exact⟨ha,ha⟩
    ·exact⟨c2,c2⟩) (by rw[BJ];simp;exact BS qu hr hi c6)) fun Mid Tr hM=>?_
  have T7:Cq k0 IB J4 (H7 .hp):=⟨X7.get (e6 _ _ T.1),X7.get (e6 _ _ T.2)⟩;refine AJ (CM (Le (HJ (Bg (Bq B a2 T7 () (Y6 w) (Qs w) (GP (AG b0 (AG a8 (AG a9 ?_)))))))));refine pG B (R.up rfl) X7.P Tr (fun c' m=>⟨(hM c' m).1,(hM c' m).2.1⟩) T7 (X7.out (e6 _ _ T.1)) (X7.out (e6 _ _ T.2)) (X7.get n0) fun c8 c9 L9 σ9 m8 g9 P9 F9=>?_;have X9:=X7.fm P9 F9;have r9:=F9.root;have d5:=X9.get l8;refine NA (CR (AG c0 (AG a8 ⟨⟨_,_,.list d5⟩,Eh d5 (!A5 o0) (Jq (!AK ha (Ac g3.symm))) (!Am o4 z ha) (CR (AG c0 (AG a9 ⟨⟨_,_,.list d5⟩,Eh d5 (!A5 o0) (Jq (!AK c2 (Ac g3.symm))) (!Am o4 z c2) (HH (Zbg (BO ?_)))⟩)))⟩)));have x8:decide (c8.find a=c8.find b)=decide (((AZ hs a:Nat):Int)=(AZ hs b:Nat)):=by
   refine decide_eq_decide.mpr ?_;rw[(hM c8 m8).2.2 a b ha c2,sc,←Hs.cc ha c2];exact Am jx
  rw[x8,beq_self_eq_true];refine Ba Im ?_;have dv:=(d1.le k2).le k3;refine HJ (Wy B (R.up rfl) X9 G g9 (e6 _ _ hN) dv r9 a7 a3 a6 fun l5 h8=>?_);refine Ba rfl ?_;refine NH ?_;refine Ba rfl ?_;refine Ax ?_;have s0:ρ4 "heap_now"=some (.ref (L9 .hp)):=by rw[r9];exact a7
  refine AJ (BR (Bq B s0 h8.P.iH () (SX w) (Os w) (AC.nil (Sf B (R.up rfl) h8.P (G.S c9 g9).U fun Dc b4 u4 v1 x2 F11=>A2 ?_))));have z5:=F11.ext h8.P x2;have d4:=h8.ext z5;have k4:=h8.le (σ':=b4);have m1:CT K3 l5 b4 Dc=some (.list (nats (BU c9))):=Gh v1 u4;generalize CT K3 l5 b4=K4 at*;have h5:=k4 _ _ l8;have e0:put ρ4 "classes" (.ref Dc) "classes"=some (.ref Dc):=As;have bo:∀{y:Str},y≠("classes":Str)→put ρ4 "classes" (.ref Dc) y=ρ4 y:=fun h=>AN h;generalize put ρ4 "classes" (.ref Dc)=ρ5 at*;rw[←bo ⋯]at a2 a3 a5 a6 a7 b0 c0;clear bo s0 a1 a4 a8 a9;have d2:(BU c9).length≤60:=AK (Ny _ _) (by rw[Lz,G.len g9];exact z);have r0:(Internal.ss hs).length≤60:=by have:=UY (xs:=hs);exact AK (AK this (Ac g3)) z
  refine AJ (Zcl R.handled (Ey (Su B R.handled (AG c0 ⟨Db,hs,rfl,d4.get h5,!ln (AK (CD (Ac g3)) (CD z)) rfl,fun Ds u3 nbs=>⟨Ds,nats (Internal.ss hs),rfl,Ao _ _ _,trivial,(Internal.ss hs).length,
   fun i ys σ'=>i≤(Internal.ss hs).length∧Ap b4 σ'∧σ' Ds=some (.list (nats (Internal.ss hs)))∧ys=((Internal.ss hs).take i).map fun z=>.tup (nats ((BU c9).filter fun a=>decide (AZ hs a=z))),⟨!Bc _,.new u3,Ao _ _ _,rfl⟩,!ln r0 rfl,?_⟩⟩))) ())
  rintro i ys c4 ⟨hi,h4,m4,rfl⟩;refine⟨hi,_,⟨_,m4,rfl⟩,?_⟩;cases hq:(nats (Internal.ss hs))[i]? with
  |some x=>
   obtain⟨zz,hz,rfl⟩:∃n:Nat,(Internal.ss hs)[i]? =some n∧AV.int n=x:=by
    rw[CH]at hq;cases hz:(Internal.ss hs)[i]? with
    |none=>rw[hz]at hq;cases hq
    |some n=>rw[hz]at hq;exact⟨n,rfl,An hq⟩
   intro Cc Kc;have f5:c4 Dc=some (.list (nats (BU c9))):=by rw[h4 Dc (by rw[d4.get m1];exact Ag _)];exact d4.get m1
   have f2:c4 Db=some (.list (nats hs)):=by rw[h4 Db (by rw[d4.get h5];exact Ag _)];exact d4.get h5
   refine Ez B (I3 w) JD (Aa (Pp R.handled (Ey (AG (by rw[AN ⋯,FY ⋯];exact e0) ⟨Dc,_,rfl,f5,trivial,nats (BU c9),Pk f5,by rw[AU];exact ln d2 rfl,
    fun v=>match v with|.int k=>decide (AZ hs k.toNat=zz)|_=>false,id,fun v hv C2=>?_,fun v hv v2 C2=>?_,fun D3 r4 nb3=>?_⟩)) ()))
   ·refine AI (BD.mp hv) fun k hk p5=>?_;subst p5;have q3:k<C3.length:=by rw[←G.len g9];exact Qn hk
    refine Bg (CR (AG (by rw[AN ⋯,FY ⋯,AN ⋯,FY ⋯];exact c0) (AG As ⟨⟨_,_,.list f2⟩,Eh f2 (!A5 o0) (Jq (!AK q3 (Ac g3.symm))) (!Am o4 z q3) (AG (by rw[AN ⋯,FY ⋯];exact As) (HH (BO ⟨?_,rfl⟩)))⟩)));show _=decide (AZ hs (k:Int).toNat=zz);rw[EN];exact decide_eq_decide.mpr (!Am bR)
   ·exact AG As ⟨rfl,rfl⟩
   ·have t3:((nats (BU c9)).filter fun v=>match v with|.int k=>decide (AZ hs k.toNat=zz)|_=>false).map id=nats ((BU c9).filter fun a=>decide (AZ hs a=zz)):=by
     rw[QQ,Jl];rfl
    rw[t3];have h7:((BU c9).filter fun a=>decide (AZ hs a=zz)).length≤60:=AK (Ny _ _) d2;have f4:=(BX.mp hz).1;refine LZ (Ao _ _ _) (by rw[AU];exact ln h7 rfl) ⟨!f4,h4.trans (.new r4),?_,?_⟩
    ·rw[Av _ _ (by rintro rfl;exact Bf ((m4.symm.trans r4)))];exact m4
    ·rw[Gy,hz];simp
  |none=>
   have hge:(Internal.ss hs).length≤i:=by have:=GV.mp hq;rwa [AU]at this
   rw[Ig hge];intro Dl t0 nbl;refine A2 ?_;have x13:=h4.trans (Ap.new (x:=.list ((Internal.ss hs).map fun z=>.tup (nats ((BU c9).filter fun a=>decide (AZ hs a=z))))) t0);have c5:=d4.ext x13;have k5:=d4.le (σ':=upd c4 Dl (.list ((Internal.ss hs).map fun z=>.tup (nats ((BU c9).filter fun a=>decide (AZ hs a=z))))));have t4:CT K4 b4 (upd c4 Dl (.list ((Internal.ss hs).map fun z=>.tup (nats ((BU c9).filter fun a=>decide (AZ hs a=z)))))) Dl=some (.list ((Internal.ss hs).map fun z=>.tup (nats ((BU c9).filter fun a=>decide (AZ hs a=z))))):=Gh (h4.none t0) (Ao _ _ _);generalize upd c4 Dl (.list ((Internal.ss hs).map fun z=>.tup (nats ((BU c9).filter fun a=>decide (AZ hs a=z)))))=σ13 at*;generalize CT K4 b4 σ13=K5 at*;have t1:=Iy k4 k5;have e5:=Iy e6 t1;have q6:=(dv.le k4).le k5;have f0:put ρ5 "lots" (.ref Dl) "lots"=some (.ref Dl):=As;have bo:∀{y:Str},y≠("lots":Str)→put ρ5 "lots" (.ref Dl) y=ρ5 y:=fun h=>AN h;generalize put ρ5 "lots" (.ref Dl)=ρ6 at*;rw[←bo ⋯]at a2 a3 a5 a6 a7 b0;clear bo c0 e0;refine AI (G.tri c9 g9 ps c1 (!BS Za7 hr (by assumption) c6)) fun Mid2 x3 m2=>?_;have r7:Cq σ13 IB J4 (L9 .hp):=by rw[r9];exact⟨c5.get (e5 _ _ T.1),c5.get (e5 _ _ T.2)⟩
   have l3:=t1 _ _ n0;have hcn:BU c9≠[]:=fun e=>by
    have U9:=(G.S c9 g9).U;have h0:=M9 U9 (a:=0) (by rw[G.len g9];exact e9);have h1:c9.find 0≤0:=Jt c9.uab 0;have h2:c9.find 0=0:=by exact Ej h1 (Bc _)
    rw[h2]at h0;have:0∈BU c9:=Dd.mpr ⟨MA.mpr (by rw[G.len g9];exact e9),by simp[h0]⟩;rw[e]at this;cases this
   refine AJ (CM (Le (HJ (Bg (Bq B a2 r7 () (ZE w) (QW w) (Aa (AG b0 ?_)))))));refine wV B (R.up rfl) c5.P x3 (G.S c9 g9).U (fun c' m=>⟨(m2 c' m).1,(m2 c' m).2.1⟩) hcn (by rw[G.len g9];exact z) r7 (c5.out (e5 _ _ T.1)) (c5.out (e5 _ _ T.2)) (c5.get l3) (c5.out l3) fun m3 e8 l4 d6 Dj m14 g1 y1 p0 q5 fDj=>?_;have s3:=c5.fm y1 p0;have i1:l4 .hp=H7 .hp:=p0.root.trans r9;have f1:=s3.get t4;refine Pp R.handled (Ey (AG f0 ⟨Dl,_,rfl,f1,trivial,_,Pk f1,by rw[AU];exact ln r0 rfl,fun v=>match v with|.tup xs=>decide (1<xs.length)|_=>false,id,fun v hv C2=>?_,fun v hv v2 C2=>AG As ⟨rfl,rfl⟩,fun D6 w2 nb6=>?_⟩)) ()
   ·refine AI (BD.mp hv) fun zz hz s5=>?_;subst s5;have h7:((BU c9).filter fun a=>decide (AZ hs a=zz)).length≤60:=AK (Ny _ _) d2;refine Bg (Bl B (CW w) CV (Aa (AG As (Zc4 (by rw[AU];exact ln h7 rfl) (BB (KQ (BO ⟨?_,rfl⟩)))))));show _=decide (1<(nats _).length);exact decide_eq_decide.mpr (!A5 da)
   ·have t2:Ap d6 (upd d6 D6 (.list ((((Internal.ss hs).map fun z=>AV.tup (nats ((BU c9).filter fun a=>decide (AZ hs a=z)))).filter fun v=>match v with|.tup xs=>decide (1<xs.length)|_=>false).map id))):=.new w2
    have hD6:upd d6 D6 (.list ((((Internal.ss hs).map fun z=>AV.tup (nats ((BU c9).filter fun a=>decide (AZ hs a=z)))).filter fun v=>match v with|.tup xs=>decide (1<xs.length)|_=>false).map id)) D6=some (.list ((Md m3.find (BU c9)).map fun FQ=>.tup (nats FQ))):=by
     rw[Ao,QQ,G.lots g9 Hs (m2 m3 m14).2.2,Jl,Jl,Bu];have:∀z,((fun v=>match v with|.tup xs=>decide (1<xs.length)|_=>false)∘fun z=>AV.tup (nats ((BU c9).filter fun a=>decide (AZ hs a=z)))) z=((fun FQ=>decide (1<FQ.length))∘fun z=>(BU c9).filter fun a=>decide (AZ hs a=z)) z:=fun z=>by
      show decide (1<(nats _).length)=_;rw[AU];rfl
     rw[funext this];rfl
    have X16:=s3.ext0 t2;have m6:=(t2 Dj (by rw[q5];exact Ag _)).trans q5;generalize upd d6 D6 (.list ((((Internal.ss hs).map fun z=>AV.tup (nats ((BU c9).filter fun a=>decide (AZ hs a=z)))).filter fun v=>match v with|.tup xs=>decide (1<xs.length)|_=>false).map id))=σ16 at*
    have dl:∀ls:List (List Nat),A4 σ16 (ls.map fun FQ=>.tup (nats FQ)) (ls.map fun FQ=>.tuple (FQ.map fun(n:Nat)=>.int n)):=fun ls=>by
     induction ls with
     |nil=>exact A4.nil
     |cons FQ ls ih=>exact A4.cons (DQ.tup (A4.nats _)) ih
    have ol:BE 2 (.list ((Md m3.find (BU c9)).map fun FQ=>.tuple (FQ.map fun(n:Nat)=>.int n))):=(BE.seq fun d hd=>by
     refine AI (BD.mp hd) fun FQ zz p3=>?_;subst p3;exact(BE.seq fun d hd=>by refine AI (BD.mp hd) fun n zz n8=>?_;subst n8;exact .int _ _).2).1
    refine XI (R.up rfl) (DQ.list m6 (dl _)) (DQ.list hD6 (dl _)) ol ol (!ld rfl) (!ld rfl) (fun zz=>BO ?_) fun ne=>absurd rfl ne;refine Ba rfl ?_;refine HJ (Wy B (R.up rfl) X16 G g1 (e5 _ _ hN) q6 i1 a7 a3 a6 fun a0 n4=>?_);refine Ba rfl ?_;refine NH ?_;refine Ba rfl ?_;refine Ax ?_;have l6:=k5 _ _ (k4 _ _ n0);have n5:∀i∈B6 (ps.map Ay),0≤i∧i<(C3.length:Int):=cV c1;refine AJ (BR (DU (AC.cons (Bt (GP (AG b0 (AG a5 (Lb ⟨!ld rfl,?_⟩))))) (by intro zz;rfl))));refine AC.cons (Bt (GP (DU (AC.nil ⟨!Bc _,fun E2 q1 zz=>Ph (BB (Pf (Lb ⟨!ld rfl,?_⟩)))⟩)))) (by intro zz;rfl);have y2:Ap a0 (upd a0 E2 (.list [])):=.new q1;have X18:=n4.ext y2;have k6:=n4.le (σ':=upd a0 E2 (.list []));have z0:CT K5 a0 (upd a0 E2 (.list [])) E2=some (.list []):=Gh q1 (Ao _ _ _);generalize upd a0 E2 (.list [])=σ18 at*;generalize CT K5 a0 σ18=K6 at*;refine AC.cons (Bt (GP (CE (AG b0 (DU (Aa (Bt (BW (AG a5 (BB ⟨!ld rfl,!Cu _,fun E3 nE3 zz=>?_⟩)))))))))) (by intro zz;rfl);have y3:Ap σ18 (upd σ18 E3 (.list [.tup [.int (C3.length:Nat),.int 0]])):=.new nE3;have v0:upd σ18 E3 (.list [.tup [.int (C3.length:Nat),.int 0]]) E3=some (.list [.tup [.int (C3.length:Nat),.int 0]]):=Ao _ _ _;have m5:=X18.ext0 y3;generalize upd σ18 E3 (.list [.tup [.int (C3.length:Nat),.int 0]])=σ19 at*;have p8:=m5.get (k6 _ _ l6);refine KN p8 v0 (by rw[AU,AU];simp;exact ln p7 rfl) fun E4 p9 zz=>BB (Lb ⟨!ld rfl,?_⟩);have y4:Ap σ19 (upd σ19 E4 (.list (A1 (ps.map Ay)++[.tup [.int (C3.length:Nat),.int 0]]))):=.new p9;have r1:=m5.ext y4;have k7:=m5.le (σ':=upd σ19 E4 (.list (A1 (ps.map Ay)++[.tup [.int (C3.length:Nat),.int 0]])));have z3:CT K6 σ19 (upd σ19 E4 (.list (A1 (ps.map Ay)++[.tup [.int (C3.length:Nat),.int 0]]))) E4=some (.list (A1 (ps.map Ay++[(((C3.length:Nat):Int),(0:Int))]))):=by
     rw[Gh p9 (Ao _ _ _)];simp
    generalize upd σ19 E4 (.list (A1 (ps.map Ay)++[.tup [.int (C3.length:Nat),.int 0]]))=σ20 at*;generalize CT K6 σ19 σ20=K7 at*;refine Aa (Bt (GP (DU (Aa (Bt (BW (BB (Ph (BB (Pf ⟨!ld rfl,!Cu _,fun E5 p4 zz=>BB (Lb ⟨!ld rfl,!ld rfl,fun E6 s1 zz=>A2 ?_⟩)⟩))))))))));have y5:Ap σ20 (upd σ20 E5 (.list [.tup [.int 0,.int (-1)]])):=.new p4;have q2:=r1.ext y5;have k8:=r1.le (σ':=upd σ20 E5 (.list [.tup [.int 0,.int (-1)]]));have w1:CT K7 σ20 (upd σ20 E5 (.list [.tup [.int 0,.int (-1)]])) E5=some (.list (A1 [((0:Int),(-1:Int))])):=Gh p4 (Ao _ _ _);generalize upd σ20 E5 (.list [.tup [.int 0,.int (-1)]])=σ21 at*;generalize CT K7 σ20 σ21=K8 at*;have f3:∀v∈[AV.tup [.ref D,.int (C3.length:Nat),.bool false],.tup [.ref E2,.int (-1),.bool false],.tup [.ref E4,.int 0,.bool false],.tup [.ref E5,.int 0,.bool true]],OS K8 C3.length v:=fun v hv=>by
     simp only[A7,HR,or_false]at hv;have l2:(ps.map Ay).length≤2:=by rw[AU];exact p7
     rcases hv with rfl|rfl|rfl|rfl
     ·refine⟨D,ps.map Ay,(C3.length:Nat),false,(B6 (ps.map Ay)).length,(C3.length:Nat),rfl,k8 _ _ (k7 _ _ (k6 _ _ l6)),!ln l2 rfl,?_⟩;rw[if_neg Gq,Ui];exact R5 n5 (show _=some ((C3.length:Nat):Int)from rfl) (!A5 dj) (!fR z)
     ·refine⟨E2,[],-1,false,0,-1,rfl,k8 _ _ (k7 _ _ z0),!Bc _,?_⟩;rw[if_neg Gq];exact R5 (is:=[]) (js:=[-1,-1,0,0]) (by simp) rfl (!A5 fT) ⋯
     ·refine⟨E4,_,0,false,(B6 (ps.map Ay)).length,(C3.length:Nat),rfl,k8 _ _ z3,by rw[BJ];simp;exact BS rz hr (by assumption) c6,?_⟩;rw[if_neg Gq,Ui,Ui,YD];exact R5 n5 (show _=some ((C3.length:Nat):Int)from rfl) (!A5 dj) (!fR z)
     ·refine⟨E5,[(0,-1)],0,true,1,-1,rfl,w1,!ld rfl,?_⟩;rw[if_pos rfl];exact R5 (is:=[0]) (js:=[-1]) (by intro i hi;rw[Aq.mp hi];exact A5 zr e9) rfl (!A5 fT) ⋯
    generalize hbl:[AV.tup [.ref D,.int (C3.length:Nat),.bool false],.tup [.ref E2,.int (-1),.bool false],.tup [.ref E4,.int 0,.bool false],.tup [.ref E5,.int 0,.bool true]]=bl at*;have q0:upd σ21 E6 (.list bl) E6=some (.list bl):=Ao _ _ _;have y6:Ap σ21 (upd σ21 E6 (.list bl)):=.new s1;have x5:=q2.ext y6;have k9:=q2.le (σ':=upd σ21 E6 (.list bl));have q4:CT K8 σ21 (upd σ21 E6 (.list bl)) E6=some (.list bl):=Gh s1 q0;have i0:∀v∈bl,OS (CT K8 σ21 (upd σ21 E6 (.list bl))) C3.length v:=fun v hv=>by
     obtain⟨l0,m9,m0,w0,N0,n9,e1,e2,e3,e4⟩:=f3 v hv;exact⟨l0,m9,m0,w0,N0,n9,e1,k9 _ _ e2,e3,e4⟩
    generalize upd σ21 E6 (.list bl)=σ22 at*;generalize CT K8 σ21 σ22=K9 at*;have o3:=Iy k6 (Iy k7 (Iy k8 k9));have h6:=Iy e5 o3;have u1:=q6.le o3;have hblen:bl.length=4:=by rw[←hbl];rfl
    have g0:put ρ6 "bad" (.ref E6) "bad"=some (.ref E6):=As;have bo:∀{y:Str},y≠("bad":Str)→put ρ6 "bad" (.ref E6) y=ρ6 y:=fun h=>AN h;generalize put ρ6 "bad" (.ref E6)=ρ7 at*;rw[←bo ⋯]at a2 a3 a6 a7;clear bo a5 b0 f0 f3;refine AJ (Gl R.handled (Ey (AG g0 ⟨E6,bl,rfl,q0,trivial,trivial,bl.length,fun i ρ' σ'=>i≤bl.length∧At σ' e8 l4 K9 KA Mg Mj∧ρ' "trial"=some (.ref IB)∧ρ' "nodes"=some (.ref SW)∧ρ' "photo"=some v∧ρ' "heap_now"=some (.ref (H7 .hp)),
     ⟨!Bc _,x5,a2,a3,a6,a7⟩,?_⟩)))
    rintro j e7 b5 ⟨hj,b1,b2,b3,b6,b7⟩;refine⟨hj,_,⟨_,b1.get q4,rfl⟩,?_⟩;cases n6:bl[j]? with
    |none=>exact AJ (B8 (Lb (q e8 l4 b5 g1 (b1.sub h6) i1)))
    |some u=>
     have u2:=(BX.mp n6).1;refine Zba (i0 u (C6 n6)) fun p2=>?_;refine EY p2 fun l0 m9 m0 w0 p1=>Bx p1 fun N0 n9 r3=>Bs r3 fun r5 e2 e3 e4=>?_;subst r5;refine Ex R.handled (.tup _) rfl (BY (A2 (BY (A2 (BY (A2 (Da ?_)))))));have n1:put (put (put e7 "some" (.ref l0)) "n" (.int m0)) "is_whole" (.bool w0) "some"=some (.ref l0):=by rw[AN ⋯,AN ⋯];exact As
     have n2:put (put (put e7 "some" (.ref l0)) "n" (.int m0)) "is_whole" (.bool w0) "n"=some (.int m0):=by rw[AN ⋯];exact As
     have n3:put (put (put e7 "some" (.ref l0)) "n" (.int m0)) "is_whole" (.bool w0) "is_whole"=some (.bool w0):=As;have bo:∀{y:Str},y≠("some":Str)→y≠("n":Str)→y≠("is_whole":Str)→put (put (put e7 "some" (.ref l0)) "n" (.int m0)) "is_whole" (.bool w0) y=e7 y:=fun h1 h2 h3=>by rw[AN h3,AN h2,AN h1]
     generalize put (put (put e7 "some" (.ref l0)) "n" (.int m0)) "is_whole" (.bool w0)=ρ9 at*;rw[←bo ⋯ ⋯ ⋯]at b2 b3 b6 b7;clear bo;refine AJ (CM (Le (HJ (Pn (Pr (gK B (lT w) (fh w) (AC.cons (AG b2 (GP (AG n1 (AG n2 (AG n3 fun nL o=>?_))))))))))));have X24:At b5 e8 l4 K9 KA Mg Mj:=b1;have n7:b5 Lf=none:=nL;have g2:Ap b5 (upd b5 Lf (.frz o)):=.new n7;have v3:Kx (aN.deeper (Gu (Og w) Lf 557)) (upd b5 Lf (.frz o)) (Gu (Og w) Lf 557::FQ):=⟨Ke al.fr,fun en m=>by
      rcases A7.mp m with rfl|m
      ·exact⟨fun e=>(by cases(show(Og w).scope.kind=.module from e)),Lf,rfl⟩
      ·exact al.kd en m,fun b m=>by
      rcases A7.mp (show b∈Lf::fl FQ from m)with rfl|m
      ·exact⟨o,Ao _ _ _⟩
      ·refine AX (fk b m) fun ob z2=>?_;have:=b1.get (h6 _ _ z2);exact⟨ob,by rw[g2 b (by rw[this];exact Ag _)];exact this⟩⟩
     have l7:=G.nds e8 g1;refine jc B (R.up rfl) v3 (b1.P.ext g2) (G.S e8 g1).U (by rw[l7];exact ln z rfl) (T:=⟨?_,?_⟩) (dx:=J4) (ps:=m9) (by rw[g2 l0 (by rw[b1.get e2];exact Ag _)];exact b1.get e2) e3 (by rw[l7];exact e4) fun σ24 p6=>⟨?_,?_⟩
     ·have:=b1.get (h6 _ _ T.1);rw[g2 IB (by rw[this];exact Ag _)];exact this
     ·have:=b1.get (h6 _ _ T.2);rw[g2 J4 (by rw[this];exact Ag _),i1];exact this
     ·rw[show(Gu (Og w) Lf 557).locals=Lf from rfl,p6 Lf (by rw[Ao];exact Ag _)];exact Ao _ _ _
     ·refine BO ?_;refine Ba Im ?_;have z1:=b1.ext0 (p6.back n7);refine HJ (Wy B (R.up rfl) z1 G g1 (h6 _ _ hN) u1 i1 b7 b3 b6 fun σ26 x0=>?_);refine Ba rfl ?_;refine NH ?_;refine Ba rfl ?_;exact Ax (Ax ⟨!u2,x0,b2,b3,b6,b7⟩)
theorem yY{σ A c L K H C cells l nodes told Bv N m t dx Φ}:VY σ A c L K H C cells l nodes told Bv N m t dx Φ:=@zF _ ag _ @qy (((((σ,A),c),(L,K)),((H,C),(cells,l))),(((nodes,told),(Bv,N)),((m,t),(dx,Φ))))
variable {s s':AQ}
theorem sr(w:AD):∀h a,h.get? a=some {cls:=.type "dict",data:=.dict #[]}→Eb w h a (.dictS []):=fun h a e=>⟨[],⟨_,#[],0,e,⟨rfl,rfl,rfl⟩,rfl,fun n m=>by simp at m,.nil,ii⟩,.nil⟩
theorem Zbj(B:Ai)
  (k:∀D,σ D=none→hb.get? D=none→D≠1→EV A env v1 ρ (upd σ D (.dictS [])) fun x1 a2=>EV A env v2 ρ a2 fun x2 a3=>EV A env v3 ρ a3 fun x3 m=>m D=some (.dictS [])∧Φ (.ref D) (upd m D (.dictS (Aw (Aw (Aw [] k1 x1) k2 x2) k3 x3)))):
  EV A env (.Dict [some (.Constant (.str k1) n1 p1),some (.Constant (.str k2) n2 p2),some (.Constant (.str k3) n3 p3)] [v1,v2,v3] b3) ρ σ Φ:=fun s S=>by
 have g0:=S.g.pushOwn {cls:=.type "dict",data:=.dict #[]} (sr w _ _ (Bz _ rfl));have t0:Ar σ s (upd σ s.heap.objs.size (.dictS [])) {s with heap:=s.heap.push {cls:=.type "dict",data:=.dict #[]}}:=.pushOwn _ _;have S0:St env ρ (upd σ s.heap.objs.size (.dictS [])) (s.heap.push {cls:=.type "dict",data:=.dict #[]}):=S.step (s':={s with heap:=s.heap.push {cls:=.type "dict",data:=.dict #[]}}) g0 t0;have kk:=k s.heap.objs.size S.g.fresh.1 S.g.fresh.2 (eH B S.g);have EE:∀{α:Type}{t:Sem α}{P Q:α→AQ→Prop}{E:Value→AQ→Prop}{s:AQ},AR (Ae pg w) A t P (fun zz zz=>False) s→(∀a s,P a s→Q a s)→AR (Ae pg w) A t Q E s:=fun h k=>AT h (fun a s q=>k a s q) fun zz zz q=>q.elim;refine wpAny_Dict_walk (knd:=strKind pg w) rfl rfl (!(by intro e;injection e)) (!ld rfl) ?_;refine jG (TI (EE (kk {s with heap:=s.heap.push {cls:=.type "dict",data:=.dict #[]},toks:=s.toks+1} S0) fun u1 s1 a0=>BG a0 fun x1 a2 r1 g1 t1 a7=>?_));have S1:=St.step (s:={s with heap:=s.heap.push {cls:=.type "dict",data:=.dict #[]},toks:=s.toks+1}) S0 g1 t1;refine jG (TI (EE (a7 {s1 with toks:=s1.toks+1} S1) fun u2 s2 a1=>BG a1 fun x2 a3 r2 g2 t2 a9=>?_));have S2:=St.step (s:={s1 with toks:=s1.toks+1}) S1 g2 t2;refine jG (TI (EE (a9 {s2 with toks:=s2.toks+1} S2) fun u3 s3 n=>BG n fun x3 m r3 g3 t3 n=>AL n fun hD q=>?_));refine pairTrees_nil_walk ?_;have b1:=(r1.mono (t2.evo.tup g1)).mono (t3.evo.tup g2);have a8:=r2.mono (t3.evo.tup g2);refine AI ((g3.own _ _ hD).2) fun b2 b0 a5=>?_;cases a5;refine⟨[(k1,u1),(k2,u2),(k3,u3)],⟨beq_self_eq_true k1,rfl,beq_self_eq_true k2,rfl,beq_self_eq_true k3,rfl,trivial⟩,b0,fun h' a6 a4=>?_⟩;refine⟨.ref s.heap.objs.size,upd m s.heap.objs.size (.dictS (Aw (Aw (Aw [] k1 x1) k2 x2) k3 x3)),.ref _,g3.set (y:=.dictS (Aw (Aw (Aw [] k1 x1) k2 x2) k3 x3)) hD a4 fun tk=>?_,?_,q⟩
 ·refine⟨_,a6,?_⟩;show Cn h' _ (stored (stored (stored [] k1 u1) k2 u2) k3 u3);exact((Cn.nil.put (b1.mono tk)).put (a8.mono tk)).put (r3.mono tk)
 ·have tt:Ar σ s m s3:=t0.trans ((Ar.toks (s:={s with heap:=s.heap.push {cls:=.type "dict",data:=.dict #[]}}) (s.toks+1)).trans (t1.trans ((Ar.toks (s:=s1) (s1.toks+1)).trans (t2.trans ((Ar.toks (s:=s2) (s2.toks+1)).trans t3)))));exact tt.trans (.set hD a4 rfl rfl)
end
section
variable {σ σ' σ'' τ:AA} {A:Ab} {env:Af} {ρ:AW} {c c':HS} {L L':AY} {K K':AA} {H C hp LV N T N' T':AB} {cells:List Int}
abbrev DF:=List Nd×List (Nat×Nat)
abbrev ZT:=HS→List Nd→List (Nat×Nat)→List DF→Nat→Prop
abbrev fH:AV:=.tup [.str "told",.str "t"]
structure Fz(Z:ZT):Prop where
 init:Z hs0 [] [] [] 11
 nds:∀{c ns ts lv k},Z c ns ts lv k→c.nodes=ns∧(∀nd∈ns,Cs nd.1)∧(∀e∈lv,∀nd∈e.1,Cs nd.1)∧lv.length≤20∧c.marks.length=lv.length
 add:∀{c ns ts lv k},Z c ns ts lv (k+1)→OE c∧∀nd c',Cs nd.1→nd.2.length≤2→(∀j∈nd.2,j<ns.length)→RZ c c' nd→Z c' (Fa ns nd) ts lv k
 settle:∀{c ns ts lv k},Z c ns ts lv k→∃I μ,PY I μ∧I c∧∀c',I c'→c'.waiting=[]→Z c' ns ts lv k
 push:∀{c ns ts lv k},Z c ns ts lv (k+1)→c.changes.length≤1000∧c.waiting.length≤1000∧Z (Eu c) ns ts (lv++[(ns,ts)]) k
 pop:∀{c ns ts lv e k},Z c ns ts (lv++[e]) k→∃many J ms ws m,OY many J∧c.marks=ms++[(many,ws)]∧c.marks.length≤1000∧J m {c with marks:=ms,backs:=c.backs+1}∧∀c',J 0 c'→Z (EU c' ws) e.1 e.2 lv k
 tell:∀{c ns ts lv k}{a b:Nat},Z c ns ts lv (k+1)→a<ns.length→b<ns.length→Dw c∧Z (c.join a b fH) ns (ts++[(a,b)]) lv k
 asks:∀{c ns ts lv k},Z c ns ts lv k→0<ns.length→∃Bv ph,FU Bv ns ts ph∧Bv c∧∀c',Bv c'→Z c' ns ts lv k
 less:∀{c ns ts lv k},Z c ns ts lv (k+1)→Z c ns ts lv k
 fin:∀{c ns ts k},Z c ns ts [] k→c.waiting=[]→0<ns.length→By c.uab∧c.uab.length=ns.length∧∀i j,i<ns.length→j<ns.length→(c.find i=c.find j↔CC ns ts i j)
def MG(K:AA)(v:AV)(e:DF):Prop:=∃N T,v=.tup [.ref N,.ref T]∧K N=some (.list (CL e.1))∧K T=some (.list (A1 (e.2.map Ay)))
def FP(K:AA):List AV→List DF→Prop
 |[],[]=>True
 |v::vs,e::es=>MG K v e∧FP K vs es
 |_,_=>False
theorem MG.le(k:∀a x,K a=some x→K' a=some x)(h:MG K v e):MG K' v e:=by refine Ec h fun N T a b d=>?_;exact⟨N,T,a,k _ _ b,k _ _ d⟩
theorem FP.le(k:∀a x,K a=some x→K' a=some x):∀{vs:List AV}{es:List DF},FP K vs es→FP K' vs es
 |[],[],_=>trivial
 |v::vs,e::es,h=>⟨h.1.le k,h.2.le k⟩
 |[],_::_,h=>h.elim
 |_::_,[],h=>h.elim
theorem FP.snoc:∀{vs:List AV}{es:List DF}{v:AV}{e:DF},FP K vs es→MG K v e→FP K (vs++[v]) (es++[e])
 |[],[],_,_,_,h=>⟨h,trivial⟩
 |v::vs,e::es,_,_,h,h'=>⟨h.1,h.2.snoc h'⟩
 |[],_::_,_,_,h,_=>h.elim
 |_::_,[],_,_,h,_=>h.elim
theorem FP.len:∀{vs:List AV}{es:List DF},FP K vs es→vs.length=es.length
 |[],[],_=>rfl
 |v::vs,e::es,h=>congrArg (· +1) h.2.len
 |[],_::_,h=>h.elim
 |_::_,[],h=>h.elim
theorem FP.last:∀{es:List DF},FP K vs es→es≠[]→∃m v a0 e,vs=m++[v]∧es=a0++[e]∧FP K m a0∧MG K v e:=by
 induction vs with
 |nil=>
  intro es h n;cases es with
  |nil=>exact absurd rfl n
  |cons e es=>exact h.elim
 |cons v vs ih=>
  intro es h n;cases es with
  |nil=>exact h.elim
  |cons e es=>
   by_cases q:es=[]
   ·subst q;cases vs with
    |nil=>exact⟨[],v,[],e,rfl,rfl,trivial,h.1⟩
    |cons v' vs=>exact h.2.elim
   ·exact EY (ih h.2 q) fun m u a0 f a1=>Bs a1 fun e1 e2 e3 e4=>⟨v::m,u,e::a0,f,by rw[e1];rfl,by rw[e2];rfl,⟨h.1,e3⟩,e4⟩
structure WS(Z:ZT)(σ:AA)(c:HS)(L:AY)(K:AA)(H C:AB)(cells:List Int)(hp LV N T:AB)(lvA:List AV)(ns:List Nd)(ts:List (Nat×Nat))(lv:List DF)(k:Nat):Prop where
 X:At σ c L (upd K LV (.list lvA)) H C cells
 kn:K LV=none
 cne:C≠LV
 root:L .hp=hp
 z:Z c ns ts lv k
 hN:K N=some (.list (CL ns))
 hT:K T=some (.list (A1 (ts.map Ay)))
 lvs:FP K lvA lv
variable {Z:ZT} {lvA:List AV} {ns ns':List Nd} {ts ts':List (Nat×Nat)} {lv lv':List DF} {k k':Nat}
theorem ng(n:K LV=none):∀a x,K a=some x→upd K LV (.list lvA) a=some x:=fun a x e=>by
 rw[Av _ _ (by rintro rfl;exact Au ((n.symm.trans e)))];exact e
theorem WS.up(W:WS Z σ c L K H C cells hp LV N T lvA ns ts lv k):∀a x,K a=some x→upd K LV (.list lvA) a=some x:=ng W.kn
theorem WS.get(W:WS Z σ c L K H C cells hp LV N T lvA ns ts lv k)(e:K a=some x):σ a=some x:=W.X.get (W.up _ _ e)
theorem WS.lv_at(W:WS Z σ c L K H C cells hp LV N T lvA ns ts lv k):σ LV=some (.list lvA):=W.X.get (Ao _ _ _)
theorem WS.go(W:WS Z σ c L K H C cells hp LV N T lvA ns ts lv k)(m:At σ' c' L' (upd K LV (.list lvA)) H C cells)(r:L' .hp=hp)(z:Z c' ns ts lv k'):WS Z σ' c' L' K H C cells hp LV N T lvA ns ts lv k':=⟨m,W.kn,W.cne,r,z,W.hN,W.hT,W.lvs⟩
def IY(K:AA)(LV:AB):AA:=fun a=>if a=LV then none else K a
theorem nW(K:AA)(LV:AB):∀a x,IY K LV a=some x→K a=some x:=fun a x e=>by unfold IY at e;split at e;exact Au e;exact e
theorem WS.more(W:WS Z σ c L K H C cells hp LV N T lvA ns ts lv k)(X':At σ' c' L' m H C cells)(le:∀a x,upd K LV (.list lvA) a=some x→m a=some x)(r:L' .hp=hp)(z:Z c' ns' ts' lv k')
  (hN:∃x,m N'=some x∧x=.list (CL ns')∧N'≠LV)(hT:∃x,m T'=some x∧x=.list (A1 (ts'.map Ay))∧T'≠LV):
  WS Z σ' c' L' (IY m LV) H C cells hp LV N' T' lvA ns' ts' lv k'∧∀a x,K a=some x→IY m LV a=some x:=by
 have a0:∀a x,K a=some x→IY m LV a=some x:=fun a x e=>by
  have ne:a≠LV:=by rintro rfl;exact Au ((W.kn.symm.trans e))
  unfold IY;rw[if_neg ne];exact le _ _ (W.up _ _ e)
 refine B2 hN fun x1 e1 a1 n1=>?_;subst a1;refine B2 hT fun x2 e2 n n2=>?_;subst n;refine⟨⟨X'.sub fun a x e=>?_,if_pos rfl,W.cne,r,z,by unfold IY;rw[if_neg n1];exact e1,by unfold IY;rw[if_neg n2];exact e2,W.lvs.le a0⟩,a0⟩;by_cases h:a=LV
 ·subst h;rw[Ao]at e;exact le _ _ (by rw[Ao];exact e)
 ·rw[Av _ _ h]at e;exact nW _ _ _ _ e
theorem WS.ne(W:WS Z σ c L K H C cells hp LV N T lvA ns ts lv k){a:AB}{x:AO}(e:K a=some x):a≠LV:=by rintro rfl;exact Au ((W.kn.symm.trans e))
theorem WS.setL(W:WS Z σ c L K H C cells hp LV N T lvA ns ts lv k){lvB:List AV}:At (upd σ LV (.list lvB)) c L (upd K LV (.list lvB)) H C cells:=by
 refine BN (W.X.K LV _ (Ao _ _ _)) fun h1 n h3=>?_;refine Bx W.X.hand fun p q h=>?_;refine⟨W.X.P.other fun a f=>Av _ _ (by rintro rfl;exact n f),fun a x e=>?_,⟨p,q,⟨by rw[Av _ _ (Ne.symm h3)];exact h.h,by rw[Av _ _ W.cne];exact h.c,h.ok,h.sz,h.q0,h.q1⟩⟩,W.X.nH,W.X.nC⟩;by_cases m:a=LV
 ·subst m;rw[Ao]at e;cases e;exact⟨Ao _ _ _,n,h3⟩
 ·rw[Av _ _ m]at e ⊢;exact W.X.K a x (by rw[Av _ _ m];exact e)
end
section
variable {σ σ' σ'' τ:AA} {A:Ab} {env:Af} {ρ:AW} {c c':HS} {L L':AY} {K K':AA} {H C hp LV N T E Lf:AB} {cells:List Int} {Z:ZT} {lvA:List AV} {ns el:List Nd} {ts:List (Nat×Nat)} {lv:List DF} {k:Nat}
def Uy(p:Nat×Nat):Dat:=.tuple [.int (p.1:Nat),.int (p.2:Nat)]
theorem Zd4(ps:List (Nat×Nat)):A4 σ (A1 (ps.map Ay)) (ps.map Uy):=by
 induction ps with
 |nil=>exact A4.nil
 |cons p ps m=>exact A4.cons (DQ.tup (A4.cons (DQ.int _) (A4.cons (DQ.int _) A4.nil))) m
theorem Zbl(p:Nat×Nat):BE 1 (Uy p):=(BE.seq fun d hd=>by
 simp only[A7,HR,or_false]at hd;rcases hd with rfl|rfl<;>exact .int _ _).2
def SV(e:DF):Dat:=.tuple [.list (e.1.map Ep),.list (e.2.map Uy)]
theorem BE.nodes(o:∀nd∈ns,Cs nd.1):BE 3 (.list (ns.map Ep)):=(BE.seq fun d hd=>by refine AI (BD.mp hd) fun nd n m=>?_;subst m;exact BE.node (o nd n)).1
theorem Zbh(o:∀nd∈e.1,Cs nd.1):BE 4 (SV e):=(BE.seq fun d hd=>by
 simp only[A7,HR,or_false]at hd;rcases hd with rfl|rfl
 ·exact .nodes o
 ·exact(BE.seq fun d hd=>by refine AI (BD.mp hd) fun p n m=>?_;subst m;exact(Zbl p).mono (!ld rfl)).1).2
theorem gE(k:∀a x,K a=some x→σ a=some x):∀{lvA:List AV}{lv:List DF},FP K lvA lv→A4 σ lvA (lv.map SV)
 |[],[],_=>A4.nil
 |v::vs,e::es,h=>by
  refine Ec h.1 fun N T m h1 n=>?_;subst m;exact A4.cons (DQ.tup (A4.cons (DQ.list (k _ _ h1) (A4.nodes _)) (A4.cons (DQ.list (k _ _ n) (Zd4 _)) A4.nil))) (gE k h.2)
 |[],_::_,h=>h.elim
 |_::_,[],h=>h.elim
theorem gd(R:Ah A 4)(W:WS Z σ c L K H C cells hp LV N T lvA ns ts lv k)(M:Fz Z)(hx:ρ "levels"=some (.ref LV))(q:∀σ',WS Z σ' c L K H C cells hp LV N T lvA ns ts lv k→Φ (decide (lv≠[])) σ')
  (h1:autoParam (Cf (env.kindOf "levels")=true) aR)(h3:autoParam (env.scope.kind=.function) aR):TR A env (.Compare (.Name "levels" p1) [.NotEq] [.List [] p2] p3) ρ σ Φ:=by
 refine Bs (M.nds W.z) fun zz zz o zz=>?_;refine Bg (AG hx (DU (AC.nil ⟨!Bc _,fun D nD nb=>?_⟩)) h1 h3);have x1:Ap σ (upd σ D (.list [])):=.new nD;have hD:upd σ D (.list []) D=some (.list []):=Ao _ _ _;have W1:=W.go (W.X.ext0 x1) W.root W.z;generalize upd σ D (.list [])=σ1 at*;have d1:DQ σ1 (.ref LV) (.list (lv.map SV)):=DQ.list W1.lv_at (gE (fun a x e=>W1.get e) W.lvs);have ok:BE 5 (.list (lv.map SV)):=(BE.seq fun d hd=>by refine AI (BD.mp hd) fun e he m=>?_;subst m;exact Zbh (o e he)).1;refine XI R d1 (DQ.list hD A4.nil) ok (BE.seq (n:=1) (ds:=[]) (by simp)).1 (!ld rfl) (!ld rfl) (fun e=>BO ?_) fun e=>BO ?_
 ·have:lv=[]:=by simpa using e
  have q1:=q σ1 W1;rw[decide_eq_false (by simpa using this)]at q1;exact q1
 ·have:lv≠[]:=fun h=>e (by rw[h];rfl);have q1:=q σ1 W1;rw[decide_eq_true this]at q1;exact q1
abbrev Dz(w:AD)(Lf:AB):Af:=Gu (Jv w) Lf 567
theorem WS.popped(W:WS Z σ c L K H C cells hp LV N T (lvA++[.tup [.ref N',.ref T']]) ns ts (lv++[e]) k)(h1:K N'=some (.list (CL e.1)))(n:K T'=some (.list (A1 (e.2.map Ay))))(h3:FP K lvA lv)
  (m:At σ' c' L' (upd K LV (.list lvA)) H C cells)(r:L' .hp=hp)(z:Z c' e.1 e.2 lv k'):WS Z σ' c' L' K H C cells hp LV N' T' lvA e.1 e.2 lv k':=⟨m,W.kn,W.cne,r,z,h1,n,h3⟩
end
section
variable {σ σ' σ'' τ:AA} {A:Ab} {ρ:AW} {c c':HS} {L L':AY} {K K':AA} {H C hp LV N T E Lf:AB} {cells:List Int} {Z:ZT} {lvA:List AV} {ns el:List Nd} {ts:List (Nat×Nat)} {lv:List DF} {k:Nat}
theorem WS.drop(B:Ai)(W:WS Z σ c L K H C cells hp LV N T lvA ns ts lv k)(M:Fz Z)(a7:lv≠[]):∃n N' T' lv' e,lvA=n++[.tup [.ref N',.ref T']]∧lv=lv'++[e]∧lvA.length≤20∧
  ∀{env:Af}{Φ:AV→AA→Prop},Ah A 7→(∀σ' c' L',WS Z σ' c' L' K H C cells hp LV N' T' n e.1 e.2 lv' k→Φ .none σ')→AF A (.ref 429) [.ref hp] (upd σ LV (.list n)) Φ:=by
 refine EY (W.lvs.last a7) fun n v lv' e a3=>Bs a3 fun a4 a2 h3 a0=>Ec a0 fun N' T' a1 h1 h2=>?_;subst a4;subst a2;subst a1;refine LA (M.nds W.z) fun zz zz zz hz zz=>?_;refine⟨n,N',T',lv',e,rfl,rfl,by rw[W.lvs.len];exact hz,fun{env Φ} R q=>?_⟩;refine J6 (M.pop W.z) fun many J ms ws m Un e1 z1 hJ hk=>?_;have X1:=W.setL (lvB:=n);have:=Vb B R X1.P Un e1 z1 hJ (Φ:=Φ) fun c5 L5 a6 a5 P5 F5=>q a6 _ L5 (W.popped h1 h2 h3 (X1.fm P5 F5) (F5.root.trans W.root) (hk c5 a5));rw[W.root]at this;exact this
def VA(σ:AA)(A:Ab)(ρ:AW)(c:HS)(L:AY)(K:AA)(H:AB)(C:AB)(hp:AB)(LV:AB)(N:AB)(T:AB)(E:AB)(Lf:AB)(cells:List Int)(Z:ZT)(lvA:List AV)(ns:List Nd)(el:List Nd)(ts:List (Nat×Nat))(lv:List DF)(k:Nat)(Φ:AV→AA→Prop):Prop:=∀(B:Ai)(R:Ah A 10)(W:WS Z σ c L K H C cells hp LV N T lvA ns ts lv k)(M:Fz Z)(r1:ρ "heap_now"=some (.ref hp))(r2:ρ "nodes"=some (.ref N))(r3:ρ "told"=some (.ref T))(r4:ρ "levels"=some (.ref LV))(r5:ρ "elder"=some (.ref E))(hE:K E=some (.list (CL el)))(p1:el<+:ns)(p2:∀e∈lv,el<+:e.1)(n:0<el.length)(m:∀nd∈el,Cs nd.1)(q:∀σ',Φ (.bool true) σ'),EX A (Dz w Lf) ((KH (Jv w)).drop 7) ρ σ (backs Φ)
def Zz:((((AA×Ab)×AW)×((HS×AY)×AA))×(((AB×AB)×AB)×((AB×AB)×AB)))×((((AB×AB)×List Int)×((ZT×List AV)×List Nd))×(((List Nd×(List (Nat×Nat)))×List DF)×(Nat×(AV→AA→Prop))))→Prop:=fun t=>VA t.1.1.1.1.1 t.1.1.1.1.2 t.1.1.1.2 t.1.1.2.1.1 t.1.1.2.1.2 t.1.1.2.2 t.1.2.1.1.1 t.1.2.1.1.2 t.1.2.1.2 t.1.2.2.1.1 t.1.2.2.1.2 t.1.2.2.2 t.2.1.1.1.1 t.2.1.1.1.2 t.2.1.1.2 t.2.1.2.1.1 t.2.1.2.1.2 t.2.1.2.2 t.2.2.1.1.1 t.2.2.1.1.2 t.2.2.1.2 t.2.2.2.1 t.2.2.2.2
def DW:=zE Zz ((((((fun _=>none),{}),(fun _=>none)),((Dy,(fun _=>0)),(fun _=>none))),(((0,0),0),((0,0),0))),((((0,0),[]),(((fun _ _ _ _ _=>True),[]),[])),((([],[]),[]),(0,(fun _ _=>True)))))
def wL:=DW.1.1.1.1.1
def Z5:=DW.1.1.1.1.2
def wy:=DW.1.1.1.2
def PW:=DW.1.1.2.1.1
def Kh:=DW.1.1.2.1.2
def ZH:=DW.1.1.2.2
def cK:=DW.1.2.1.1.1
def UP:=DW.1.2.1.1.2
def VW:=DW.1.2.1.2
def Qy:=DW.1.2.2.1.1
def MC:=DW.1.2.2.1.2
def MS:=DW.1.2.2.2
def Tv:=DW.2.1.1.1.1
def cP:=DW.2.1.1.1.2
def cf:=DW.2.1.1.2
def d9:=DW.2.1.2.1.1
def OF:=DW.2.1.2.1.2
def Hg:=DW.2.1.2.2
def JL:=DW.2.2.1.1.1
def Ox:=DW.2.2.1.1.2
def I9:=DW.2.2.1.2
def az:=DW.2.2.2.1
def rW:=DW.2.2.2.2
theorem Zas:VA wL Z5 wy PW Kh ZH cK UP VW Qy MC MS Tv cP cf d9 OF Hg JL Ox I9 az rW:=fun B R W M r1 r2 r3 r4 r5 hE p1 p2 d6 c8 q=>by
 refine AJ (LS (fun m ρ' σ'=>∃PW Kh MC MS OF Hg Ox I9,m=I9.length∧WS d9 σ' PW Kh ZH cK UP cf VW Qy MC MS OF Hg Ox I9 az∧ρ' "heap_now"=some (.ref VW)∧ρ' "nodes"=some (.ref MC)∧ρ' "told"=some (.ref MS)∧ρ' "levels"=some (.ref Qy)∧ρ' "elder"=some (.ref Tv)∧JL<+:Hg∧∀e∈I9,JL<+:e.1)
  I9.length ⟨PW,Kh,MC,MS,OF,Hg,Ox,I9,rfl,W,r1,r2,r3,r4,r5,p1,p2⟩ ?_)
 clear W r1 r2 r3 r4 r5 p1 p2;rintro m b6 e9 ⟨PW,Kh,MC,MS,OF,Hg,Ox,I9,rfl,W,r1,r2,r3,r4,r5,p1,p2⟩;refine gd (R.lo rfl) W M r4 fun f2 W2=>?_;by_cases hl:I9=[]
 ·subst hl;refine Ba (decide_eq_false (!nofun)) ?_;refine Ec (M.settle W2.z) fun I μ Go hI hz=>?_;have b7:b6 "heap_now"=some (.ref (Kh .hp)):=by rw[W2.root];exact r1
  refine AJ (Be (Bq B b7 W2.X.P.iH () (Qe w) (Pe w) (AC.nil (SA B (R.lo rfl) Go W2.X.P hI fun c3 L3 e6 e3 c9 P3 F3=>?_))));have W3:=W2.go (W2.X.fm P3 F3) (F3.root.trans W2.root) (hz c3 e3 c9);refine BN (M.nds W3.z) fun a1 a2 zz=>?_;have a8:0<Hg.length:=N1 d6 p1.length_le;refine BN (M.fin W3.z c9 a8) fun U3 l3 hf=>?_;refine Ec (M.asks W3.z a8) fun Bv ph G g zz=>?_;have a3:=G.z;have a6:b6 "heap_now"=some (.ref (L3 .hp)):=by rw[W3.root];exact r1
  have a0:c3.nodes.length=Hg.length:=by rw[a1]
  refine AJ (B8 (gM (NA (Zbx R.handled (LY (Fd B (Ip w) JM ⟨rfl,Aa (Bq B a6 W3.X.P.iH () (Ov w) (MH w) (AC.nil (Op B (R.lo rfl) W3.X.P (!ln (AK (Ac a0) a3) rfl)
   ⟨c3.nodes.length,rfl,!ln (AK (CD (Ac a0)) (CD a3)) rfl,⟨_,_,rfl⟩,B3 c3.nodes.length,fun(i:Nat)=>.int (0+i),fun i=>.int (c3.find i:Nat),fun zz zz=>XJ,by rw[Lz];exact ln (AK (Ac a0) a3) rfl,fun i hi UP σ' x=>?_,fun D1 f3 x4 d4=>?_⟩)))⟩ ⋯ () () () ())) ()))))
  ·have hi:=MA.mp hi;rw[show(fun(i:Nat)=>AV.int (0+i)) i=.int (i:Nat) by show AV.int (0+(i:Int))=_;rw[Jg]];exact Bq B (by rw[AN ⋯,FY ⋯];exact a6) (W3.X.P.ext x).iH () (G8 w) (Hb w) (Aa (AG As (HD B (R.lo rfl) (W3.X.P.ext x) U3 (!AK (AK hi (Ac a0)) (Ac l3.symm)) ⟨.refl _,DQ.int _⟩)))
  ·have W4:=W3.go (W3.X.ext0 x4) W3.root W3.z;refine Hr B (Zg w) (Um w) (BW (AG r2 (AG r3 ?_)));refine cw B (R.lo rfl) (W4.get W4.hN) (W4.get W4.hT) G.dup (fun nd b0=>(G.kid g b0).2) (fun nd b0=>by have:=(G.kid g b0).1;exact ln this rfl) G.tin (!a3) (by have:=G.tz;exact ln this rfl) fun D5 hs a4 x5 f0 d3 Hs=>?_;have W5:=W4.go (W4.X.ext0 x5) W4.root W4.z;have d5:DQ a4 (.ref D1) (.list ((B3 c3.nodes.length).map fun i=>.int (c3.find i:Nat))):=d4.le fun a x e=>by
    have:=Vl e;rw[x5 a (by rw[this];exact Ag _)];exact this
   have e7:((B3 c3.nodes.length).map fun i=>Dat.int (c3.find i:Nat))=hs.map fun(n:Nat)=>.int n:=by
    refine Tm fun i=>?_;rw[CH,CH];have a7:=Hs.len;by_cases hi:i<Hg.length
    ·rw[iI (!AK hi (Ac a0.symm)),PZ (hs:=hs) (!AK hi (Ac a7.symm))];have d2:=Hs.le i;have c6:AZ hs i<Hg.length:=by exact AK (CD d2) hi
     have b1:=(hf (AZ hs i) i c6 hi).mpr ((Hs.cc c6 hi).mp (Hs.idem i));have b2:c3.find (AZ hs i)≤AZ hs i:=Jt c3.uab _;have c2:c3.find i<Hg.length:=by rw[←l3];exact gX U3 (!AK hi (Ac l3.symm))
     have b3:c3.find (c3.find i)=c3.find i:=G5 (M9 U3 (!AK hi (Ac l3.symm)));have b4:=(Hs.cc c2 hi).mpr ((hf _ _ c2 hi).mp b3);have b5:=Hs.le (c3.find i);have:c3.find i=AZ hs i:=by exact Ej (AK (Ac b1.symm) b2) (AK (Ac b4.symm) b5)
     show some (Dat.int (c3.find i:Nat))=some (Dat.int (AZ hs i:Nat));rw[this]
    ·rw[Lq (by rw[Lz];exact AK (Ac a0) (EM hi)),Lq (!AK (Ac a7) (EM hi))];rfl
   have dh:DQ a4 (.ref D5) (HU hs):=DQ.list d3 (A4.nats _);rw[e7]at d5;refine gT (R.lo rfl) d5 dh (BE.nats 5 hs) (BE.nats 5 hs) (!ld rfl) (!ld rfl) (fun zz=>⟨true,rfl,?_⟩) fun ne=>absurd rfl ne;refine CN rfl ?_;have a9:=W5.get hE;have d1:=M.nds W5.z;have e5:=p1.length_le;refine NA (So (AG r2 (Bl B (CW w) CV (Aa (AG r5 (Ce a9 (by rw[AU];exact ln (AK e5 a3) rfl) ⟨((CL JL).length:Nat),rfl,⟨_,_,.list (W5.get W5.hN)⟩,JF.list (W5.get W5.hN) (by rw[AU];exact ln a3 rfl) (ys:=CL JL) (.inl ⟨_,rfl,rfl,?_⟩) fun D6 e0 f1=>AG r5 ?_⟩))))))
   ·refine AX p1 fun r c1=>?_;subst c1;show _=List.take _ ((JL++r).map _);rw[Cr,Tp];rfl
   ·have x6:Ap a4 (upd a4 D6 (.list (CL JL))):=.new e0;have e8:=(x6 Tv (by rw[a9];exact Ag _)).trans a9;exact gT (R.lo rfl) (DQ.list (Ao _ _ _) (A4.nodes JL)) (DQ.list e8 (A4.nodes JL)) (BE.nodes c8) (BE.nodes c8) (!ld rfl) (!ld rfl) (fun zz=>q _) fun ne=>absurd rfl ne
 ·refine CN (decide_eq_true hl) ?_;refine EY (W2.drop (A:=Z5) B M hl) fun a5 N' T' lv' c4=>IG c4 fun e e1 e2 hz c5=>?_;subst e1 e2;have hL:=W2.lv_at;refine AJ (BR (CY (l:=Qy) FO Fl (AG r4 ⟨rfl,hL,AC.nil (FJ hL (by rw[BJ]at hz;exact Am bS hz) ?_)⟩)));refine Ex R.handled (.tup _) rfl (BY (A2 (BY (A2 (Da ?_)))));have X3:=W2.setL (lvB:=a5);have b7:put (put b6 "nodes" (.ref N')) "told" (.ref T') "heap_now"=some (.ref (Kh .hp)):=by rw[AN ⋯,AN ⋯,W2.root];exact r1
  refine AJ (Be (Bq B b7 X3.P.iH () (Sh w) (Ow w) (AC.nil ?_)));rw[W2.root];refine c5 (env:=Dz w cP) (R.lo rfl) fun e6 c3 L3 W3=>Ax ?_;refine⟨lv'.length,by rw[BJ];exact Nk _,c3,L3,N',T',a5,e.1,e.2,lv',rfl,W3,?_,?_,As,?_,?_,p2 e (by simp),fun e' e4=>p2 e' (by simp[e4])⟩
  ·rw[AN ⋯,AN ⋯];exact r1
  ·rw[AN ⋯];exact As
  ·rw[AN ⋯,AN ⋯];exact r4
  ·rw[AN ⋯,AN ⋯];exact r5
theorem jl{σ A ρ c L K H C hp LV N T E Lf cells Z lvA ns el ts lv k Φ}:VA σ A ρ c L K H C hp LV N T E Lf cells Z lvA ns el ts lv k Φ:=@zF _ Zz _ @Zas (((((σ,A),ρ),((c,L),K)),(((H,C),hp),((LV,N),T))),((((E,Lf),cells),((Z,lvA),ns)),(((el,ts),lv),(k,Φ))))
variable {t dx:AB}
theorem At.frame{o:C0}(X:At σ c L K H C cells)(n:σ Lf=none):At (upd σ Lf (.frz o)) c L (upd K Lf (.frz o)) H C cells:=by
 have x:Ap σ (upd σ Lf (.frz o)):=.new n;refine(X.ext x).sub fun a y e=>?_;by_cases h:a=Lf
 ·subst h;rw[Ao]at e;cases e;exact Gh n (Ao _ _ _)
 ·rw[Av _ _ h]at e;exact X.le _ _ e
theorem At.unframe(X:At σ c L (upd K Lf (.frz o)) H C cells)(n:K Lf=none):At (Cd σ Lf) c L K H C cells:=by
 refine BN (X.K Lf _ (Ao _ _ _)) fun h1 h2 h3=>?_;refine Bx X.hand fun p q h=>?_;have m:C≠Lf:=by rintro rfl;have:=h.c;exact(nomatch (An ((h1.symm.trans this))))
 refine⟨X.P.other fun a f=>Gd (by rintro rfl;exact h2 f),fun a x e=>?_,⟨p,q,⟨by rw[Gd (Ne.symm h3)];exact h.h,by rw[Gd m];exact h.c,h.ok,h.sz,h.q0,h.q1⟩⟩,X.nH,X.nC⟩;have ne:a≠Lf:=by rintro rfl;exact Au ((n.symm.trans e))
 rw[Gd ne];exact X.K a x (by rw[Av _ _ ne];exact e)
def Oq(w:AD):List DD:=match((KH (Jv w))[6]? :Option DD)with
 |some (Stmt.For _ _ b _ _)=>b
 |_=>[]
theorem Za5(w:AD):Cj (KK w) Bh "_law_asked_right"=some (some (.ref 557)):=∅
theorem Ob(B:Ai)(R:Ah A 15)(fr:A.frames=some [Dz w Lf])(W:WS Z σ c L K H C cells hp LV N T lvA ns ts lv k)(M:Fz Z)(a0:Cq K t dx hp)(a6:0<ns.length)
  (r1:ρ "heap_now"=some (.ref hp))(r2:ρ "nodes"=some (.ref N))(r3:ρ "told"=some (.ref T))(r4:ρ "levels"=some (.ref LV))(r6:ρ "trial"=some (.ref t))(r7:ρ "hand"=some (.ref H))
  (q:∀σ' c' L',WS Z σ' c' L' K H C cells hp LV N T lvA ns ts lv k→Φ .next ρ σ'):EX A (Dz w Lf) ((Oq w).drop 2) ρ σ Φ:=by
 refine LA (M.nds W.z) fun a1 a2 a3 a4 a5=>?_;have a7:ρ "heap_now"=some (.ref (L .hp)):=by rw[W.root];exact r1
 have hl:=W.lvs.len;refine AJ (CM (Le (HJ (Bg (Bq B a7 W.X.P.iH () (Z4 w) (WQ w) (AC.nil (ck B (R.lo rfl) W.X.P (!ln (AK (Ac a5) a4) rfl) (Bl B (CW w) CV (Aa (AG r4 (Ce W.lv_at (!ln (AK (Ac hl) a4) rfl) (NO (BO ?_)))))))))))));rw[decide_eq_true (by rw[hl,a5])];refine Ba Im ?_;refine Ec (M.asks W.z a6) fun Bv ph G g gz=>?_;refine HJ (Pn (Pr (gK B (Za5 w) (bP w) (AC.cons (AG r7 (GP (AG r6 (AG r2 (AG r3 fun nL o=>?_)))))))));have n:σ Lf=none:=nL;have X1:=W.X.frame (o:=o) n;have kl:upd K LV (.list lvA) Lf=none:=by
  cases z:upd K LV (.list lvA) Lf with
  |none=>rfl
  |some x=>have:=W.X.get z;exact Au ((n.symm.trans this))
 have kk:∀a x,K a=some x→upd (upd K LV (.list lvA)) Lf (.frz o) a=some x:=fun a x e=>by
  have h1:=W.up _ _ e;rw[Av _ _ (by rintro rfl;exact Au ((kl.symm.trans h1)))];exact h1
 have al:Kx A (upd σ Lf (.frz o)) [Dz w Lf]:=⟨fr,fun en m=>by
  rw[Aq.mp m];exact⟨fun e=>(by cases(show(Jv w).scope.kind=.module from e)),Lf,rfl⟩,fun b m=>by
  rw[Aq.mp (show b∈[Lf]from m)];exact⟨o,Ao _ _ _⟩⟩
 refine yY B (R.lo rfl) al X1 G g (kk _ _ W.hN) (kk _ _ W.hT) (dx:=dx) ⟨kk _ _ a0.1,by rw[W.root];exact kk _ _ a0.2⟩ (fun b m=>⟨o,by rw[Aq.mp (show b∈[Lf]from m)];exact Ao _ _ _⟩) fun c2 L2 a8 g2 X2 e2=>⟨X2.get (Ao _ _ _),BO ?_⟩;refine Ba Im ?_;refine NH ?_;refine Ba rfl ?_;exact Ax (Ax (q _ c2 L2 (W.go (X2.unframe kl) (e2.trans W.root) (gz c2 g2))))
variable {ρ':AW}
structure RF(ρ:AW)(hp N T LV E t H:AB):Prop where
 r1:ρ "heap_now"=some (.ref hp)
 r2:ρ "nodes"=some (.ref N)
 r3:ρ "told"=some (.ref T)
 r4:ρ "levels"=some (.ref LV)
 r5:ρ "elder"=some (.ref E)
 r6:ρ "trial"=some (.ref t)
 r7:ρ "hand"=some (.ref H)
theorem RF.put(R:RF ρ hp N T LV E t H)(h:y="way"∨y="lap"∨y="node"):RF (put ρ y v) hp N T LV E t H:=by
 rcases h with rfl|rfl|rfl<;>exact⟨by rw[AN ⋯];exact R.r1,by rw[AN ⋯];exact R.r2,by rw[AN ⋯];exact R.r3,by rw[AN ⋯];exact R.r4,by rw[AN ⋯];exact R.r5,by rw[AN ⋯];exact R.r6,by rw[AN ⋯];exact R.r7⟩
theorem RF.nodes{N':AB}(R:RF ρ hp N T LV E t H):RF (Internal.put ρ "nodes" (.ref N')) hp N' T LV E t H:=
 ⟨by rw[AN ⋯];exact R.r1,As,by rw[AN ⋯];exact R.r3,by rw[AN ⋯];exact R.r4,by rw[AN ⋯];exact R.r5,by rw[AN ⋯];exact R.r6,by rw[AN ⋯];exact R.r7⟩
theorem RF.told{T':AB}(R:RF ρ hp N T LV E t H):RF (Internal.put ρ "told" (.ref T')) hp N T' LV E t H:=
 ⟨by rw[AN ⋯];exact R.r1,by rw[AN ⋯];exact R.r2,As,by rw[AN ⋯];exact R.r4,by rw[AN ⋯];exact R.r5,by rw[AN ⋯];exact R.r6,by rw[AN ⋯];exact R.r7⟩
theorem Q7(K:AA):∀a x,K a=some x→K a=some x:=fun m m e=>e
theorem R4(ns:List Nd)(nd:Nd):ns<+:Fa ns nd:=by
 unfold Fa;split
 ·exact List.prefix_refl _
 ·exact List.prefix_append _ _
set_option maxHeartbeats 1000000 in
def Uf(σ:AA)(A:Ab)(ρ:AW)(c:HS)(L:AY)(K:AA)(H:AB)(C:AB)(hp:AB)(LV:AB)(N:AB)(T:AB)(E:AB)(Lf:AB)(t:AB)(dx:AB)(cells:List Int)(Z:ZT)(ns:List Nd)(el:List Nd)(ts:List (Nat×Nat))(k:Nat)(r:Nat)(Φ:CK→AW→AA→Prop):Prop:=∀{lvA:List AV}{lv:List DF}(B:Ai)(R:Ah A 15)(fr:A.frames=some [Dz w Lf])(W:WS Z σ c L K H C cells hp LV N T lvA ns ts lv (k+1))(M:Fz Z)(a1:Cq K t dx hp)(a0:0<ns.length)(n:0<el.length)(F:RF ρ hp N T LV E t H)(hw:ρ "way"=some (.int (r:Nat)))(p1:el<+:ns)(p2:∀e∈lv,el<+:e.1)(q:∀σ' c' L' K' N' T' m ns' ts' lv' ρ',WS Z σ' c' L' K' H C cells hp LV N' T' m ns' ts' lv' k→(∀a x,K a=some x→K' a=some x)→RF ρ' hp N' T' LV E t H→el<+:ns'→(∀e∈lv',el<+:e.1)→Φ .next ρ' σ'),EX A (Dz w Lf) ((Oq w).drop 1) ρ σ Φ
def Yh:((((AA×Ab)×AW)×((HS×AY)×AA))×(((AB×AB)×AB)×((AB×AB)×AB)))×((((AB×AB)×AB)×((AB×List Int)×ZT))×(((List Nd×List Nd)×(List (Nat×Nat)))×((Nat×Nat)×(CK→AW→AA→Prop))))→Prop:=fun t=>Uf t.1.1.1.1.1 t.1.1.1.1.2 t.1.1.1.2 t.1.1.2.1.1 t.1.1.2.1.2 t.1.1.2.2 t.1.2.1.1.1 t.1.2.1.1.2 t.1.2.1.2 t.1.2.2.1.1 t.1.2.2.1.2 t.1.2.2.2 t.2.1.1.1.1 t.2.1.1.1.2 t.2.1.1.2 t.2.1.2.1.1 t.2.1.2.1.2 t.2.1.2.2 t.2.2.1.1.1 t.2.2.1.1.2 t.2.2.1.2 t.2.2.2.1.1 t.2.2.2.1.2 t.2.2.2.2
def DN:=zE Yh ((((((fun _=>none),{}),(fun _=>none)),((Dy,(fun _=>0)),(fun _=>none))),(((0,0),0),((0,0),0))),((((0,0),0),((0,[]),(fun _ _ _ _ _=>True))),((([],[]),[]),((0,0),(fun _ _ _=>True)))))
def ce:=DN.1.1.1.1.1
def OZ:=DN.1.1.1.1.2
def KB:=DN.1.1.1.2
def Qm:=DN.1.1.2.1.1
def MD:=DN.1.1.2.1.2
def IQ:=DN.1.1.2.2
def VH:=DN.1.2.1.1.1
def Ve:=DN.1.2.1.1.2
def Vp:=DN.1.2.1.2
def IR:=DN.1.2.2.1.1
def KM:=DN.1.2.2.1.2
def KL:=DN.1.2.2.2
def wd:=DN.2.1.1.1.1
def Oe:=DN.2.1.1.1.2
def nB:=DN.2.1.1.2
def pD:=DN.2.1.2.1.1
def Uv:=DN.2.1.2.1.2
def Wn:=DN.2.1.2.2
def G3:=DN.2.2.1.1.1
def sY:=DN.2.2.1.1.2
def GA:=DN.2.2.1.2
def VX:=DN.2.2.2.1.1
def Oc:=DN.2.2.2.1.2
def ew:=DN.2.2.2.2
set_option maxHeartbeats 1000000 in
theorem qB:Uf ce OZ KB Qm MD IQ VH Ve Vp IR KM KL wd Oe nB pD Uv Wn G3 sY GA VX Oc ew:=fun{lvA}{lv} B R fr W M a4 a2 d6 F hw p1 p2 q=>by
 refine LA (M.nds W.z) fun n1 n2 n3 n4 n5=>?_;have e8:KB "heap_now"=some (.ref (MD .hp)):=by rw[W.root];exact F.r1
 have hl:=W.lvs.len;have f4:=(M.add W.z).1.z;refine AJ (CM (Bg (AG hw (BB (HH (BO ?_))))));by_cases h0:Oc=0
 ·refine CN (decide_eq_true (!A5 wz h0)) ?_;refine AJ (Be (CY (l:=IR) Fj Fk (AG F.r4 ⟨rfl,W.lv_at,Aa (Bt (BW (AG F.r2 (AG F.r3 ⟨!ld rfl,E7 W.lv_at (!ln (AK (Ac hl) n4) rfl) ?_⟩))))⟩)));have X1:=W.setL (lvB:=lvA++[.tup [.ref KM,.ref KL]]);refine BN (M.push W.z) fun b1 b2 z'=>?_;refine AJ (Be (Bq B e8 X1.P.iH () (cU w) (UR w) (AC.nil (Y3 B (R.lo rfl) X1.P b1 b2 (!ln (AK (Ac n5) n4) rfl) fun L2 a1 P2 F2=>?_))));have W2:WS Wn a1 (Eu Qm) L2 IQ VH Ve Uv Vp IR KM KL (lvA++[.tup [.ref KM,.ref KL]]) G3 GA (lv++[(G3,GA)]) VX:=⟨X1.fm P2 F2,W.kn,W.cne,F2.root.trans W.root,z',W.hN,W.hT,W.lvs.snoc ⟨KM,KL,rfl,W.hN,W.hT⟩⟩;refine Ax (Ob B R fr W2 M a4 a2 F.r1 F.r2 F.r3 F.r4 F.r6 F.r7 fun a0 c3 L3 n=>q a0 c3 L3 IQ KM KL _ G3 GA _ KB n (Q7 IQ) F p1 fun e he=>?_);rcases B9.mp he with h|h
  ·exact p2 e h
  ·rw[Aq.mp h];exact p1
 refine Ba (decide_eq_false (!A5 tG h0)) ?_;have rest:∀{Ψ:CK→AW→AA→Prop} a5,WS Wn a5 Qm MD IQ VH Ve Uv Vp IR KM KL lvA G3 GA lv (VX+1)→(∀c8 a1,EX OZ (Dz w Oe) ((Oq w).drop 2) c8 a1 ew→Ψ .next c8 a1)→EX OZ (Dz w Oe) (match(Oq w)[1]? with|some (Stmt.If _ _ [Stmt.If _ _ e _] _)=>e|_=>[]) KB a5 Ψ:=fun{Ψ} a5 m a8=>by
  refine AJ (CM (Bg (AG hw (BB (HH (BO ?_))))));by_cases h2:Oc=2
  ·refine CN (decide_eq_true (!A5 Zan h2)) ?_;refine AJ (BR (CE (AG F.r3 (DU (Aa (XF B (R.lo rfl) m.X (m.up _ _ m.hN) a2 (by rw[←n1];exact f4) F.r7 F.r2 fun a b a1 ha e0 X2=>⟨!Cu _,fun D nD nb=>?_⟩))))));have W2:=m.go X2 m.root m.z;have x3:Ap a1 (upd a1 D (.list [.tup [.int (a:Nat),.int (b:Nat)]])):=.new nD;have hD:upd a1 D (.list [.tup [.int (a:Nat),.int (b:Nat)]]) D=some (.list [.tup [.int (a:Nat),.int (b:Nat)]]):=Ao _ _ _;have n:=W2.go (W2.X.ext0 x3) W2.root W2.z;generalize upd a1 D (.list [.tup [.int (a:Nat),.int (b:Nat)]])=a0 at*;refine Ec (M.asks n.z a2) fun Bv ph G g zz=>?_;have tz:=G.tz;refine KN (n.get n.hT) hD (by rw[AU,AU];simp;exact ln tz rfl) fun D4 b6 f5=>A2 ?_;have x4:Ap a0 (upd a0 D4 (.list (A1 (GA.map Ay)++[.tup [.int (a:Nat),.int (b:Nat)]]))):=.new b6;have a6:upd a0 D4 (.list (A1 (GA.map Ay)++[.tup [.int (a:Nat),.int (b:Nat)]])) D4=some (.list (A1 (GA.map Ay)++[.tup [.int (a:Nat),.int (b:Nat)]])):=Ao _ _ _;have X4:=n.X.ext x4;have d1:=n.X.le (σ':=upd a0 D4 (.list (A1 (GA.map Ay)++[.tup [.int (a:Nat),.int (b:Nat)]])));have e9:=Gh (K:=upd IQ IR (.list lvA)) b6 a6;have e7:D4≠IR:=by rintro rfl;exact Bf ((n.lv_at.symm.trans b6))
   generalize upd a0 D4 (.list (A1 (GA.map Ay)++[.tup [.int (a:Nat),.int (b:Nat)]]))=σ4 at*;generalize CT (upd IQ IR (.list lvA)) a0 σ4=K4 at*;have F4:=F.told (T':=D4);have d5:put KB "told" (.ref D4) "heap_now"=some (.ref (MD .hp)):=by rw[n.root];exact F4.r1
   have c1:∀{Ψ:AV→AA→Prop}{j:Nat}{v:AV}{p1 p2 p3 p4 p5 p6:A8}{k1 k2:Nat},[AV.int (a:Nat),.int (b:Nat)][j]? =some v→j<2→Ψ v σ4→
     EV OZ (Dz w Oe) (.Subscript (.Subscript (.Name "told" p1) (.UnaryOp .USub (.Constant (.int 1) k1 p2) p3) p4) (.Constant (.int (j:Nat)) k2 p5) p6) (put KB "told" (.ref D4)) σ4 Ψ:=fun hv hj qq=>by
    refine CR (CR (AG As (Ph (BB (Pf ⟨⟨_,_,.list a6⟩,Zca a6 (x:=.tup [.int (a:Nat),.int (b:Nat)]) (!CX jS) (by rw[BJ,AU,AU];simp;exact A5 sh) ?_ (by rw[BJ,AU,AU];simp;exact ln (Zdq tz 2) rfl) (BB ⟨⟨_,_,.tup⟩,Fc (!A5 o0) (by rw[EN];exact hv) (!A5 f6 hj) qq⟩)⟩)))));rw[BJ,AU,AU,show((-(1:Int))+((GA.length+[AV.tup [.int (a:Nat),.int (b:Nat)]].length:Nat):Int)).toNat=GA.length by simp;exact yF,Ik (by rw[AU,AU];exact A9 _),AU,AU,QR];rfl
   refine AL (M.tell n.z ha e0) fun S4 z4=>?_;have ul:Qm.uab.length=G3.length:=by rw[←S4.nl,n1]
   refine AJ (Be (Bq B d5 X4.P.iH () (fX w) (Ws w) (GP (c1 (j:=0) rfl (!ld rfl) (c1 (j:=1) rfl (!A9 _) (Bt (BW (DB (DB ⟨!ld rfl,?_⟩)))))))));refine bj B (R.lo rfl) X4.P S4 (!AK ha (Ac ul.symm)) (!AK e0 (Ac ul.symm)) fun L5 g0 v P5 F5=>?_;have X5:=X4.fm P5 F5;refine AL (n.more (ns':=G3) (ts':=GA++[(a,b)]) (N':=KM) (T':=D4) X5 d1 (F5.root.trans n.root) z4 ⟨_,d1 _ _ (n.up _ _ n.hN),rfl,n.ne n.hN⟩ ⟨_,e9,by simp,e7⟩) fun W5 b0=>?_;exact Ax (Ax (a8 _ _ (Ob B R fr W5 M ⟨b0 _ _ a4.1,b0 _ _ a4.2⟩ a2 F4.r1 F4.r2 F4.r3 F4.r4 F4.r6 F4.r7 fun a3 c6 L6 W6=>q a3 c6 L6 _ _ _ _ _ _ _ _ W6 b0 F4 p1 p2)))
  ·refine Ba (decide_eq_false (!A5 mv h2)) ?_;have c4:KB "heap_now"=some (.ref (MD .hp)):=e8;refine AJ (CM (Bg (AG hw (BB (HH (BO ?_))))));by_cases h3:Oc=3
   ·refine CN (decide_eq_true (!A5 xN h3)) ?_;refine AL (M.add m.z) fun O d4=>?_;refine AJ (BR (Hr B (aL w) (Vf w) (GP (AG F.r7 (AG c4 (AG F.r2 ?_))))));refine Yb B (R.lo rfl) m.X O (by rw[n1];exact a2) (by rw[n1];exact m.up _ _ m.hN) fun nd c2 L2 a1 N2 K2 b1 b2 b3 hM X2 a7 b4 e2=>A2 ?_;rw[n1]at b3 b4;have z2:=d4 nd c2 b1 b2 b3 hM;have neN:N2≠IR:=by
     rintro rfl;have e3:=a7 _ _ (Ao IQ IR (.list lvA));rw[b4]at e3;have e4:CL (Fa G3 nd)=lvA:=Internal.AO.list.inj (An e3);have d2:=(R4 G3 nd).length_le;cases hq:Fa G3 nd with
     |nil=>rw[hq]at d2;exact absurd (N1 a2 d2) (EI _)
     |cons u us=>
      rw[hq]at e4;have b7:=m.lvs;rw[←e4]at b7;cases lv with
      |nil=>exact b7.elim
      |cons e es=>
       refine Cp b7.1 fun N3 T3 e5 zz=>?_;have e6:Bw u.key=_:=e5;rw[GH]at e6;cases e6
    refine AL (m.more (ns':=Fa G3 nd) (ts':=GA) (N':=N2) (T':=KL) X2 a7 (e2.trans m.root) z2 ⟨_,b4,rfl,neN⟩ ⟨_,a7 _ _ (m.up _ _ m.hT),rfl,m.ne m.hT⟩) fun W2 b5=>?_;have F2:=F.nodes (N':=N2);have pp:=R4 G3 nd;exact Ax (Ax (Ax (a8 _ _ (Ob B R fr W2 M ⟨b5 _ _ a4.1,b5 _ _ a4.2⟩ (N1 a2 pp.length_le) F2.r1 F2.r2 F2.r3 F2.r4 F2.r6 F2.r7 fun a3 c6 L6 W6=>q a3 c6 L6 _ _ _ _ _ _ _ _ W6 b5 F2 (p1.trans pp) p2))))
   ·refine Ba (decide_eq_false (!A5 yk h3)) ?_;refine Ec (M.settle m.z) fun I μ Go hI hz=>?_;refine AJ (Be (Bq B c4 m.X.P.iH () (Qe w) (Pe w) (AC.nil (SA B (R.lo rfl) Go m.X.P hI fun c3 L3 a0 f1 f3 P3 F3=>?_))));have n:=m.go (m.X.fm P3 F3) (F3.root.trans m.root) (M.less (hz c3 f1 f3));exact Ax (Ax (Ax (a8 _ _ (Ob B R fr n M a4 a2 F.r1 F.r2 F.r3 F.r4 F.r6 F.r7 fun a3 c6 L6 W6=>q a3 c6 L6 _ _ _ _ _ _ _ _ W6 (Q7 IQ) F p1 p2))))
 refine AJ (CM (Le (gR (Bg (AG hw (BB (HH (BO ?_))))))));by_cases h1:Oc=1
 ·refine CN (decide_eq_true (!A5 vL h1)) ?_;refine gR (gd (R.lo rfl) W M F.r4 fun a5 m=>?_);by_cases a9:lv=[]
  ·refine Ba (decide_eq_false (by simpa using a9)) ?_;refine Ba rfl ?_;exact rest a5 m fun zz zz h=>Ax h
  ·refine CN (decide_eq_true a9) ?_;refine Zb6 ?_;refine CN rfl ?_;refine EY (m.drop (A:=OZ) B M a9) fun c5 N' T' lv' d3=>IG d3 fun e e1 e2 hz c9=>?_;subst e1 e2;have hL:=m.lv_at;refine AJ (BR (CY (l:=IR) FO Fl (AG F.r4 ⟨rfl,hL,AC.nil (FJ hL (by rw[BJ]at hz;exact Am bS hz) ?_)⟩)));refine Ex R.handled (.tup _) rfl (BY (A2 (BY (A2 (Da ?_)))));have X3:=m.setL (lvB:=c5);have F3:=(F.nodes (N':=N')).told (T':=T');have f0:put (put KB "nodes" (.ref N')) "told" (.ref T') "heap_now"=some (.ref (MD .hp)):=by rw[m.root];exact F3.r1
   refine AJ (Be (Bq B f0 X3.P.iH () (Sh w) (Ow w) (AC.nil ?_)));rw[m.root];refine c9 (env:=Dz w Oe) (R.lo rfl) fun a0 c3 L3 n=>?_;have pe:=p2 e (by simp);have W4:=n.go n.X n.root (M.less n.z);exact Ax (Ax (Ob B R fr W4 M a4 (N1 d6 pe.length_le) F3.r1 F3.r2 F3.r3 F3.r4 F3.r6 F3.r7 fun a3 c6 L6 W6=>q a3 c6 L6 _ _ _ _ _ _ _ _ W6 (Q7 IQ) F3 pe fun e' f2=>p2 e' (by simp[f2])))
 ·refine Ba (decide_eq_false (!A5 my h1)) ?_;refine Ba rfl ?_;exact rest ce W fun zz zz h=>Ax h
theorem Y5{σ A ρ c L K H C hp LV N T E Lf t dx cells Z ns el ts k r Φ}:Uf σ A ρ c L K H C hp LV N T E Lf t dx cells Z ns el ts k r Φ:=@zF _ Yh _ @qB (((((σ,A),ρ),((c,L),K)),(((H,C),hp),((LV,N),T))),((((E,Lf),t),((dx,cells),Z)),(((ns,el),ts),((k,r),Φ))))
theorem yI(B:Ai)(R:Ah A 15)(fr:A.frames=some [Dz w Lf])(W:WS Z σ c L K H C cells hp LV N T lvA ns ts lv (k+1))(M:Fz Z)(a2:Cq K t dx hp)(a0:0<ns.length)(n:0<el.length)(F:RF ρ hp N T LV E t H)(hw:ρ "lap"=some (.int j))
  (p1:el<+:ns)(p2:∀e∈lv,el<+:e.1)
  (q:∀σ' c' L' K' N' T' a1 ns' ts' lv' ρ',WS Z σ' c' L' K' H C cells hp LV N' T' a1 ns' ts' lv' k→(∀a x,K a=some x→K' a=some x)→RF ρ' hp N' T' LV E t H→el<+:ns'→(∀e∈lv',el<+:e.1)→Φ .next ρ' σ'):EX A (Dz w Lf) (Oq w) ρ σ Φ:=by
 refine AJ (BR (ND (Bg (AG hw (BB (KQ (BO ?_)))))));by_cases h:0<j
 ·refine CN (decide_eq_true h) ?_;refine NR B (R.lo rfl) W.X F.r7 (m:=5) (!ld rfl) (fun q=>BB q) fun r a3 hr X1 s1=>A2 ?_;exact Y5 B R fr (W.go X1 W.root W.z) M a2 a0 n (F.put (.inl rfl)) (r:=r) As p1 p2 q
 ·refine Ba (decide_eq_false h) ?_;refine BB (A2 ?_);exact Y5 B R fr W M a2 a0 n (F.put (.inl rfl)) (r:=0) As p1 p2 q
theorem qW(B:Ai)(R:Ah A 15)(fr:A.frames=some [Dz w Lf])(W:WS Z σ c L K H C cells hp LV N T lvA ns ts lv 5)(M:Fz Z)(a2:Cq K t dx hp)(n:0<el.length)(F:RF ρ hp N T LV E t H)(hE:K E=some (.list (CL el)))(a5:∀nd∈el,Cs nd.1)
  (p1:el<+:ns)(p2:∀e∈lv,el<+:e.1)(q:∀σ',Φ (.bool true) σ'):EX A (Dz w Lf) ((KH (Jv w)).drop 6) ρ σ (backs Φ):=by
 refine AJ (Gl R.handled (LY (Fd B (Ip w) JM ⟨rfl,Aa (CE (BB (NR B (R.lo rfl) W.X F.r7 (m:=3) (!ld rfl) (fun q=>BB q) fun r b6 hr X1 s1=>Jd ⟨3+r,by rw[show(3:Int)+((r:Nat):Int)=((3+r:Nat):Int) by exact A5 Zaf],!A5 xA hr,⟨_,_,rfl⟩,trivial,3+r,
  fun i ρ' σ'=>i≤3+r∧∃c L K' N' T' lvA ns ts lv,WS Z σ' c L K' H C cells hp LV N' T' lvA ns ts lv (5-i)∧(∀a x,K a=some x→K' a=some x)∧RF ρ' hp N' T' LV E t H∧el<+:ns∧∀e∈lv,el<+:e.1,
  ⟨!Bc _,c,L,K,N,T,lvA,ns,ts,lv,W.go X1 W.root W.z,Q7 K,F,p1,p2⟩,?_⟩)))⟩ ⋯ () () () ())))
 clear W F p1 p2;rintro i b5 b7 ⟨hi,c2,L2,K2,N2,T2,b1,a8,b4,b2,W2,a0,F2,p1,p2⟩;refine⟨hi,_,rfl,?_⟩;have a4:0<a8.length:=N1 n p1.length_le;by_cases a1:i<3+r
 ·rw[if_pos a1];obtain⟨k,hk⟩:∃k,5-i=k+1:=⟨4-i,!vI hr a1⟩;rw[hk]at W2;refine A2 ?_;refine yI B R fr W2 M ⟨a0 _ _ a2.1,a0 _ _ a2.2⟩ a4 n (F2.put (.inr (.inl rfl))) As p1 p2 fun c1 c3 L3 K3 N3 T3 a3 a7 a6 b0 b3 W3 a9 F3 q1 q2=>?_;refine⟨!a1,c3,L3,K3,N3,T3,a3,a7,a6,b0,?_,Iy a0 a9,F3,q1,q2⟩;rw[show 5-(i+1)=k by exact yy hk];exact W3
 ·rw[if_neg a1];exact jl B (R.lo rfl) W2 M F2.r1 F2.r2 F2.r3 F2.r4 F2.r5 (a0 _ _ hE) p1 p2 n a5 q
theorem Fz.lessTo(M:Fz Z){m:Nat}:∀{k:Nat},m≤k→Z c ns ts lv k→Z c ns ts lv m:=fun{k} h z=>by
 induction h with
 |refl=>exact z
 |step _ n=>exact n (M.less z)
theorem At.add{a:AB}{x:AO}(X:At σ c L K H C cells)(e:σ a=some x)(f:¬A6 c L a)(n:a≠H):At σ c L (upd K a x) H C cells:=⟨X.P,fun b y h=>by
 by_cases hb:b=a
 ·subst hb;rw[Ao]at h;cases h;exact⟨e,f,n⟩
 ·rw[Av _ _ hb]at h;exact X.K b y h,X.hand,X.nH,X.nC⟩
theorem WS.node(B:Ai)(R:Ah A 11)(W:WS Z σ c L K H C cells hp LV N T lvA ns ts lv (k+1))(M:Fz Z)(a1:0<ns.length)
  (q:∀nd σ' c' L' K' N',WS Z σ' c' L' K' H C cells hp LV N' T lvA (Fa ns nd) ts lv k→(∀a x,K a=some x→K' a=some x)→Φ (.ref N') σ'):AF A (.ref 562) [.ref H,.ref hp,.ref N] σ Φ:=by
 refine LA (M.nds W.z) fun n1 n2 n3 n4 n5=>?_;refine AL (M.add W.z) fun O a2=>?_;rw[←W.root];refine Yb B R W.X O (by rw[n1];exact a1) (by rw[n1];exact W.up _ _ W.hN) fun nd c2 L2 a5 N2 K2 b1 b2 b3 hM X2 m n e2=>?_;rw[n1]at b3 n;have z2:=a2 nd c2 b1 b2 b3 hM;have neN:N2≠LV:=by
  rintro rfl;have e3:=m _ _ (Ao K N2 (.list lvA));rw[n]at e3;have e4:CL (Fa ns nd)=lvA:=by obtain rfl:=Internal.AO.list.inj (An e3);rfl
  have a3:=(R4 ns nd).length_le;cases hq:Fa ns nd with
  |nil=>rw[hq]at a3;exact absurd (N1 a1 a3) (EI _)
  |cons u us=>
   rw[hq]at e4;have a0:=W.lvs;rw[←e4]at a0;cases lv with
   |nil=>exact a0.elim
   |cons e es=>
    refine Cp a0.1 fun N3 T3 e5 zz=>?_;have e6:Bw u.key=_:=e5;rw[GH]at e6;cases e6
 refine AL (W.more (ns':=Fa ns nd) (ts':=ts) (N':=N2) (T':=T) X2 m (e2.trans W.root) z2 ⟨_,n,rfl,neN⟩ ⟨_,m _ _ (W.up _ _ W.hT),rfl,W.ne W.hT⟩) fun W2 a4=>?_;exact q nd a5 c2 L2 _ N2 W2 a4
theorem kW(w:AD):Cj (KK w) Bh "Levels"=some (some (.ref 460)):=∅
theorem jU(w:AD):Cj (KK w) Bh "Trial"=some (some (.ref 517)):=∅
theorem zh(w:AD):Cj (KK w) Bh "abs"=some none:=∅
theorem oU:Gr "abs"=some (.builtin "abs"):=∅
abbrev Fb:List Nd:=[("a",[]),("b",[]),("c",[])]
def Us(σ:AA)(A:Ab)(ρ:AW)(c:HS)(L:AY)(K:AA)(H:AB)(C:AB)(hp:AB)(LV:AB)(N:AB)(T:AB)(Lf:AB)(cells:List Int)(Z:ZT)(lvA:List AV)(ns:List Nd)(ts:List (Nat×Nat))(lv:List DF)(Φ:AV→AA→Prop):Prop:=∀(B:Ai)(R:Ah A 15)(fr:A.frames=some [Dz w Lf])(W:WS Z σ c L K H C cells hp LV N T lvA ns ts lv 8)(M:Fz Z)(m:0<ns.length)(hl:lv=[])(n:ρ "heap_now"=some (.ref hp))(r2:ρ "nodes"=some (.ref N))(r3:ρ "told"=some (.ref T))(r4:ρ "levels"=some (.ref LV))(r7:ρ "hand"=some (.ref H))(q:∀σ',Φ (.bool true) σ'),EX A (Dz w Lf) ((KH (Jv w)).drop 4) ρ σ (backs Φ)
def Yy:((((AA×Ab)×AW)×(HS×AY))×(((AA×AB)×AB)×(AB×AB)))×((((AB×AB)×AB)×(List Int×ZT))×(((List AV×List Nd)×(List (Nat×Nat)))×(List DF×(AV→AA→Prop))))→Prop:=fun t=>Us t.1.1.1.1.1 t.1.1.1.1.2 t.1.1.1.2 t.1.1.2.1 t.1.1.2.2 t.1.2.1.1.1 t.1.2.1.1.2 t.1.2.1.2 t.1.2.2.1 t.1.2.2.2 t.2.1.1.1.1 t.2.1.1.1.2 t.2.1.1.2 t.2.1.2.1 t.2.1.2.2 t.2.2.1.1.1 t.2.2.1.1.2 t.2.2.1.2 t.2.2.2.1 t.2.2.2.2
def EF:=zE Yy ((((((fun _=>none),{}),(fun _=>none)),(Dy,(fun _=>0))),((((fun _=>none),0),0),(0,0))),((((0,0),0),([],(fun _ _ _ _ _=>True))),((([],[]),[]),([],(fun _ _=>True)))))
def rX:=EF.1.1.1.1.1
def qX:=EF.1.1.1.1.2
def sP:=EF.1.1.1.2
def Qo:=EF.1.1.2.1
def Qu:=EF.1.1.2.2
def dF:=EF.1.2.1.1.1
def N5:=EF.1.2.1.1.2
def ZD:=EF.1.2.1.2
def Qr:=EF.1.2.2.1
def Ea:=EF.1.2.2.2
def YY:=EF.2.1.1.1.1
def Oj:=EF.2.1.1.1.2
def nh:=EF.2.1.1.2
def Ye:=EF.2.1.2.1
def db:=EF.2.1.2.2
def IX:=EF.2.2.1.1.1
def Oz:=EF.2.2.1.1.2
def SS:=EF.2.2.1.2
def ZJ:=EF.2.2.2.1
def pW:=EF.2.2.2.2
theorem ux:Us rX qX sP Qo Qu dF N5 ZD Qr Ea YY Oj nh Ye db IX Oz SS ZJ pW:=fun B R fr W M a2 hl r1 r2 r3 r4 r7 q=>by
 refine AJ (Gl R.handled (LY (Fd B (Ip w) JM ⟨rfl,Aa (CE (BB (NR B (R.lo rfl) W.X r7 (m:=3) (!ld rfl) (fun q=>BB q) fun r b5 hr X1 s1=>Jd ⟨1+r,by rw[show(1:Int)+((r:Nat):Int)=((1+r:Nat):Int) by exact A5 wJ],!A5 qJ hr,⟨_,_,rfl⟩,trivial,1+r,
  fun i ρ' σ'=>i≤1+r∧∃Qo Qu K' N' Oz,WS db σ' Qo Qu K' N5 ZD Ye Qr Ea N' Oj IX Oz SS ZJ (8-i)∧0<Oz.length∧ρ' "heap_now"=some (.ref Qr)∧ρ' "nodes"=some (.ref N')∧ρ' "told"=some (.ref Oj)∧ρ' "levels"=some (.ref Ea)∧ρ' "hand"=some (.ref N5),
  ⟨!Bc _,Qo,Qu,dF,YY,Oz,W.go X1 W.root W.z,a2,r1,r2,r3,r4,r7⟩,?_⟩)))⟩ ⋯ () () () ())))
 clear W r1 r2 r3 r4 r7 a2;rintro i b6 b4 ⟨hi,c2,L2,K2,N2,a0,n,a2,r1,r2,r3,r4,r7⟩;refine⟨hi,_,rfl,?_⟩;by_cases a3:i<1+r
 ·rw[if_pos a3];obtain⟨k,hk⟩:∃k,8-i=k+1:=⟨7-i,!wU hr a3⟩;rw[hk]at n;refine A2 (AJ (BR (Hr B (aL w) (Vf w) (GP (AG (by rw[AN ⋯];exact r7) (AG (by rw[AN ⋯];exact r1) (AG (by rw[AN ⋯];exact r2) ?_)))))));refine n.node B (R.lo rfl) M a2 fun nd a1 c3 L3 K3 N3 W3 c4=>A2 (Ax ⟨!a3,c3,L3,K3,N3,_,?_,N1 a2 (R4 a0 nd).length_le,?_,As,?_,?_,?_⟩)
  ·rw[show 8-(i+1)=k by exact rd hk];exact W3
  ·rw[AN ⋯,AN ⋯];exact r1
  ·rw[AN ⋯,AN ⋯];exact r3
  ·rw[AN ⋯,AN ⋯];exact r4
  ·rw[AN ⋯,AN ⋯];exact r7
 ·rw[if_neg a3];have z5:=M.lessTo (m:=5) (!qY hr hi) n.z;refine Ec (M.settle z5) fun I μ Go hI hz=>?_;refine LA (M.nds z5) fun n1 n2 n3 n4 n5=>?_;refine AJ (NI (names:=["trial","elder"]) R.handled () (Bt (BW (LW B (NM B (jU w) ⟨_,.cl (vr w),Aa (AG r1 ?_)⟩ () () () ⋯) ()))));have:=n.root;rw[←this];refine Zai B (R.lo rfl) n.X.P Go hI fun t dx c3 L3 a1 b0 b2 P3 F3 T3 nt nd a8 a7=>?_;have X3:=n.X.fm P3 F3;have hH:=n.X.hand;have tH:t≠N5:=by rintro rfl;refine Bx hH fun p q h=>?_;exact Bf ((h.h.symm.trans a8))
  have dH:dx≠N5:=by rintro rfl;refine Bx hH fun p q h=>?_;exact Bf ((h.h.symm.trans a7))
  have kt:∀{a},b4 a=none→upd K2 Ea (.list IX) a=none:=fun{a} h=>by
   cases z:upd K2 Ea (.list IX) a with
   |none=>rfl
   |some x=>have:=n.X.get z;exact Au ((h.symm.trans this))
  have tL:t≠Ea:=by rintro rfl;exact Bf ((n.lv_at.symm.trans a8))
  have dL:dx≠Ea:=by rintro rfl;exact Bf ((n.lv_at.symm.trans a7))
  have X4:=(X3.add T3.1 nt tH).add T3.2 nd dH;have td:t≠dx:=by rintro rfl;have h1:=T3.1;have h2:=T3.2;exact(nomatch (An ((h1.symm.trans h2))))
  have a6:∀a x,upd K2 Ea (.list IX) a=some x→upd (upd (upd K2 Ea (.list IX)) t (.inst 517 dx)) dx (.ns 1 (Od (L3 .hp))) a=some x:=fun a x e=>by
   rw[Av _ _ (by rintro rfl;exact Au (((kt a7).symm.trans e))),Av _ _ (by rintro rfl;exact Au (((kt a8).symm.trans e)))];exact e
  refine AL (n.more (ns':=a0) (ts':=SS) (N':=N2) (T':=Oj) X4 a6 (F3.root.trans n.root) (hz c3 b0 b2) ⟨_,a6 _ _ (n.up _ _ n.hN),rfl,n.ne n.hN⟩ ⟨_,a6 _ _ (n.up _ _ n.hT),rfl,n.ne n.hT⟩) fun W4 c1=>?_;have a9:Cq (IY (upd (upd (upd K2 Ea (.list IX)) t (.inst 517 dx)) dx (.ns 1 (Od (L3 .hp)))) Ea) t dx Qr:=by
   refine⟨?_,?_⟩
   ·show(if t=Ea then _ else _)=_;rw[if_neg tL,Av _ _ td,Ao]
   ·show(if dx=Ea then _ else _)=_;rw[if_neg dL,Ao,F3.root,n.root]
  generalize IY (upd (upd (upd K2 Ea (.list IX)) t (.inst 517 dx)) dx (.ns 1 (Od (L3 .hp)))) Ea=K4 at*;have b3:=(M.add (k:=4) (M.lessTo (m:=5) (!A9 _) W4.z)).1.z;refine BN (M.nds W4.z) fun m1 m2 zz=>?_;refine Ez B (JW w) It (Aa (AG r2 (KS (W4.get W4.hN) (by rw[AU,←m1];exact ln b3 rfl) fun E nE b7=>⟨!ld rfl,_,.tup _,rfl,BY (GN () (BY (GN () (Da ?_))))⟩)));have x5:Ap a1 (upd a1 E (.list (CL a0))):=.new nE;have hE:upd a1 E (.list (CL a0)) E=some (.list (CL a0)):=Ao _ _ _;have X5:=W4.X.ext x5;have a5:=W4.X.le (σ':=upd a1 E (.list (CL a0)));have kE:=Gh (K:=upd K4 Ea (.list IX)) nE hE;have b1:E≠Ea:=by rintro rfl;exact Bf ((W4.lv_at.symm.trans nE))
  generalize upd a1 E (.list (CL a0))=σ5 at*;generalize CT (upd K4 Ea (.list IX)) a1 σ5=K5 at*;refine AL (W4.more (ns':=a0) (ts':=SS) (N':=N2) (T':=Oj) X5 a5 W4.root W4.z ⟨_,a5 _ _ (W4.up _ _ W4.hN),rfl,W4.ne W4.hN⟩ ⟨_,a5 _ _ (W4.up _ _ W4.hT),rfl,W4.ne W4.hT⟩) fun W5 a4=>?_;refine qW (el:=a0) (t:=t) (dx:=dx) (E:=E) B R fr W5 M ⟨a4 _ _ a9.1,a4 _ _ a9.2⟩ a2 ⟨?_,?_,?_,?_,?_,?_,?_⟩ (by show(if E=Ea then _ else _)=_;rw[if_neg b1];exact kE) m2 (List.prefix_refl _) (by rw[hl];simp) q
  ·rw[AN ⋯,AN ⋯];exact r1
  ·rw[AN ⋯,AN ⋯];exact r2
  ·rw[AN ⋯,AN ⋯];exact r3
  ·rw[AN ⋯,AN ⋯];exact r4
  ·rw[AN ⋯];exact As
  ·exact As
  ·rw[AN ⋯,AN ⋯];exact r7
theorem jX{σ A ρ c L K H C hp LV N T Lf cells Z lvA ns ts lv Φ}:Us σ A ρ c L K H C hp LV N T Lf cells Z lvA ns ts lv Φ:=@zF _ Yy _ @ux (((((σ,A),ρ),(c,L)),(((K,H),C),(hp,LV))),((((N,T),Lf),(cells,Z)),(((lvA,ns),ts),(lv,Φ))))
end
section
variable {σ σ' σ'' τ:AA} {A:Ab} {ρ ρ':AW} {c c':HS} {L L':AY} {K K':AA} {H C hp LV N T E Lf t dx:AB} {cells:List Int} {Z:ZT}
theorem Ua:BZ (.List es p::rest) env=(false,A0 (.List es p) env)::BZ rest env:=by rfl
theorem VP:BZ (.Tuple es k p::rest) env=(false,A0 (.Tuple es k p) env)::BZ rest env:=by rfl
theorem tP(B:Ai)(R:Ah A 10)(P:AS σ L c)(O:OE c)(n:Cs x)(m:((x,[]):Nd)∉c.nodes)
  (q:∀c' L' σ' v,RZ c c' (x,[])→AS σ' L' c'→Fm σ c L σ' c' L'→Φ v σ'):AF A (.ref 296) [.ref (L .hp),.tup [.str x]] σ Φ:=by
 have z:=O.z;have e:AH c.nums (x,[])=none:=by
  cases hq:AH c.nums (x,[])with
  |none=>rfl
  |some i=>exact absurd (C6 ((O.num _ i).mp hq)) m
 exact vY B R P O.S e n (!ln z rfl) O.hab (fun w d=>O.hS (x,[]) w d n (!Bc _) (by simp) m) fun w' d L' σ' P' F'=>q _ L' σ' _ (.inr ⟨m,w',d,rfl⟩) P' F'
set_option maxHeartbeats 8000000 in
theorem pZ(B:Ai)(R:Ah A 15)(fr:A.frames=some [Dz w Lf])(X:At σ hs0 L (fun zz=>none) H C cells)(c3:L .hp=hp)(M:Fz Z)(r1:ρ "heap_now"=some (.ref hp))(r7:ρ "hand"=some (.ref H))
  (q:∀σ',Φ (.bool true) σ'):EX A (Dz w Lf) ((KH (Jv w)).drop 2) ρ σ (backs Φ):=by
 show EX A (Dz w Lf) (_::_) ρ σ (backs Φ);refine AJ ?_;refine NI (names:=["nodes","told","levels"]) R.handled ?_ ?_ ?_
 ·rfl
 ·refine Bt (GP ?_ (fun zz=>Ua) (fun zz=>Ua) (fun zz=>Ua));refine DU (GP ?_ (fun zz=>VP) (fun zz=>VP) (fun zz=>VP));refine Bt (Aa (DB ⟨!Cu _,?_⟩));refine Bt (Aa (DB ⟨!Cu _,?_⟩));refine Bt (Aa (DB ⟨!Cu _,!ld rfl,fun N nN d1=>?_⟩));have hN:upd σ N (.list [.tup [.str "a"],.tup [.str "b"],.tup [.str "c"]]) N=some (.list (CL Fb)):=by rw[Ao];rfl
  have x1:Ap σ (upd σ N (.list [.tup [.str "a"],.tup [.str "b"],.tup [.str "c"]])):=.new nN;have X1:=X.ext x1;have kN:=Gh (K:=fun zz=>none) nN hN;generalize upd σ N (.list [.tup [.str "a"],.tup [.str "b"],.tup [.str "c"]])=σ1 at*;generalize CT (fun zz=>none) σ σ1=K1 at*;refine DU (AC.nil ⟨!Bc _,fun T nT d3=>?_⟩);have x2:Ap σ1 (upd σ1 T (.list [])):=.new nT;have X2:=X1.ext x2;have k2:=X1.le (σ':=upd σ1 T (.list []));have kT:=Gh (K:=K1) nT (Ao σ1 T (.list []));generalize upd σ1 T (.list [])=σ2 at*;generalize CT K1 σ1 σ2=K2 at*;refine DU (AC.nil ⟨!Bc _,fun LV n c9=>?_⟩);have x3:Ap σ2 (upd σ2 LV (.list [])):=.new n;have c2:=Ao σ2 LV (.list []);have X3:=(X2.ext0 x3).add c2 (X2.P.out n) (by rintro rfl;refine Bx X2.hand fun p q h=>?_;exact Bf ((h.h.symm.trans n)));have a8:K2 LV=none:=by
   cases z:K2 LV with
   |none=>rfl
   |some x=>have:=X2.get z;exact Au ((n.symm.trans this))
  have c6:C≠LV:=by rintro rfl;refine Bx X2.hand fun p q h=>?_;exact Bf ((h.c.symm.trans n))
  generalize upd σ2 LV (.list [])=σ3 at*;have a5:=k2 _ _ kN;refine⟨!ld rfl,_,.tup _,rfl,BY (GN () (BY (GN () (BY (GN () (Da ?_))))))⟩;generalize hr:put (put (put ρ "levels" (.ref LV)) "told" (.ref T)) "nodes" (.ref N)=ρ1;have a1:ρ1 "heap_now"=some (.ref hp):=by rw[←hr,AN ⋯,AN ⋯,AN ⋯];exact r1
  have a7:ρ1 "hand"=some (.ref H):=by rw[←hr,AN ⋯,AN ⋯,AN ⋯];exact r7
  have a2:ρ1 "nodes"=some (.ref N):=by rw[←hr];exact As
  have a3:ρ1 "told"=some (.ref T):=by rw[←hr,AN ⋯];exact As
  have a4:ρ1 "levels"=some (.ref LV):=by rw[←hr,AN ⋯,AN ⋯];exact As
  clear hr r1 r7;have neN:N≠LV:=by rintro rfl;exact Au ((a8.symm.trans a5))
  have a9:upd K2 LV (.list []) N=some (.list (CL Fb)):=by rw[Av _ _ neN];exact a5
  refine AJ (Gl R.handled (Ey (AG a2 ⟨N,CL Fb,rfl,X3.get a9,trivial,trivial,3,fun i ρ' σ'=>i≤3∧∃c L,At σ' c L (upd K2 LV (.list [])) H C cells∧L .hp=hp∧Z c (Fb.take i) [] [] (11-i)∧ρ' "heap_now"=some (.ref hp)∧ρ' "nodes"=some (.ref N)∧ρ' "told"=some (.ref T)∧ρ' "levels"=some (.ref LV)∧ρ' "hand"=some (.ref H),
   ⟨!ld rfl,hs0,L,X3,c3,M.init,a1,a2,a3,a4,a7⟩,?_⟩)))
  rintro i b5 c8 ⟨hi,c4,L4,X4,a0,z4,b1,b2,b3,b4,b7⟩;refine⟨hi,_,⟨_,X4.get a9,rfl⟩,?_⟩;cases hq:(CL Fb)[i]? with
  |some x=>
   have a6:i<3:=(BX.mp hq).1;obtain⟨m,e1,e2,e3,e4⟩:∃m:Str,x=.tup [.str m]∧Cs m∧((m,[]):Nd)∉Fb.take i∧Fb.take (i+1)=Fb.take i++[(m,[])]:=by
    exact sv (C:=fun i=>(CL Fb)[i]? =some x→∃m:Str,x=.tup [.str m]∧Cs m∧((m,[]):Nd)∉Fb.take i∧Fb.take (i+1)=Fb.take i++[(m,[])]) a6 (fun hq=>⟨"a",(An hq).symm,.inl rfl,by decide,rfl⟩) (fun hq=>⟨"b",(An hq).symm,.inr (.inl rfl),by decide,rfl⟩) (fun hq=>⟨"c",(An hq).symm,.inr (.inr (.inl rfl)),by decide,rfl⟩) hq
   subst e1;obtain⟨k,hk⟩:∃k,11-i=k+1:=⟨10-i,!nS a6⟩;rw[hk]at z4;refine AL (M.add z4) fun O b0=>?_;refine AL (M.nds z4) fun n1 zz=>?_;have b6:put b5 "node" (.tup [.str m]) "heap_now"=some (.ref (L4 .hp)):=by rw[AN ⋯,a0];exact b1
   refine A2 (AJ (Be (Bq B b6 X4.P.iH () (vn w) (cB w) (Aa (AG As (tP B (R.lo rfl) X4.P O e2 (by rw[n1];exact e3) fun c5 L5 d2 v hM P5 F5=>Ax ?_))))));have z5:=b0 (m,[]) c5 e2 (!Bc _) (by simp) hM;have:Fa (Fb.take i) (m,[])=Fb.take (i+1):=by unfold Fa;rw[if_neg e3,e4]
   rw[this]at z5;refine⟨!a6,c5,L5,X4.fm P5 F5,F5.root.trans a0,by rw[show 11-(i+1)=k by exact wv hk];exact z5,?_,?_,?_,?_,?_⟩
   ·rw[AN ⋯];exact b1
   ·rw[AN ⋯];exact b2
   ·rw[AN ⋯];exact b3
   ·rw[AN ⋯];exact b4
   ·rw[AN ⋯];exact b7
  |none=>
   have c1:3≤i:=GV.mp hq;obtain rfl:i=3:=by exact Ej hi c1
   have W:WS Z c8 c4 L4 K2 H C cells hp LV N T [] Fb [] [] 8:=⟨X4,a8,c6,a0,z4,a5,kT,trivial⟩;exact jX B R fr W M ⋯ rfl b1 b2 b3 b4 b7 q
 ·rfl
end
section
variable {σ σ' σ'' τ:AA} {A:Ab} {env:Af} {ρ ρ':AW}
structure Pc(hb:A3)(S:AB)(is:List Int):Prop where
 at_:∃vs,hb.IsList S vs.toArray∧Ji vs is
 z:is.length≤1000
def Zbs{m n a2}{c:Prop}:=@Pc.casesOn m n a2 (fun zz=>c)
theorem Zau(r:Ji vs is):VRs h (BI is) vs:=by
 induction r with
 |nil=>exact .nil
 |cons n t r m=>exact .cons (.int n t) m
theorem Zb1
  (k:EV A env a4 ρ σ fun ov a2=>OV A env a6 ρ a2 fun hi a0=>∃S is b,ov=.ref S∧Pc hb S is∧hi=some ((b:Nat):Int)∧∀D,a0 D=none→hb.get? D=none→Φ (.ref D) (upd a0 D (.list (BI (is.take b))))):
  EV A env (.Subscript a4 (.Slice none a6 none p) d1) ρ σ Φ:=fun s S=>
 Subscript_ (AT (k s S) (fun o s₁ b0=>BG b0 fun ov a2 b6 a7 a3 b5=>wpAny_Slice (by
  rw[Xr];refine Ad ?_;refine AT (b5.run (S.step a7 a3)) (fun vu a1 c5=>Bx c5 fun hi a0 c6=>Bs c6 fun pu c2 a8 b4=>LN b4 fun T is b c1=>Bs c1 fun e1 H e2 q=>?_) fun zz zz e=>e;refine Ad ?_;subst e1 e2;obtain rfl:=VR.inv_ref b6;refine Zbs H fun b3 hz=>?_;refine AX b3 fun vs a9=>AL a9 fun c8 hI=>AX c8 fun ob c3=>BN c3 fun ho hc b7=>AX b7 fun n hd=>?_;have m:=c2.push {cls:=.type "slice",data:=.fields #[.none,vu,.none]};have qs:VRs (a1.heap.push {cls:=.type "slice",data:=.fields #[.none,vu,.none]}) (BI is) vs.toArray.toList:=Zau hI;have l1:=qs.toArr;rw[AU]at l1;refine Wu (s:={a1 with heap:=a1.heap.push {cls:=.type "slice",data:=.fields #[.none,vu,.none]}}) ⟨ob,m.base _ _ ho,hc⟩ slot_list_getitem.lookup (AT (Zdj (Q:=PV a0 {a1 with heap:=a1.heap.push {cls:=.type "slice",data:=.fields #[.none,vu,.none]}} Φ) ⟨ob,m.base _ _ ho,hc,n,hd⟩ ⟨_,Bz _ rfl,rfl,rfl⟩ .none pu .none (!(by intro e;injection e)) ⟨.ref _,upd a0 _ (.list (BI (is.take b))),.ref _,m.pushOwn _ ⟨_,_,Bz _ rfl,?_⟩,.pushOwn _ _,q _ m.fresh.1 m.fresh.2⟩ (by rw[CG];exact ln (AK (Ac l1) hz) rfl)) (fun v c9 b1=>BG b1 fun av a5 c4 m b2 q=>⟨av,a5,c4,m,a3.trans (a8.trans ((Ar.push _).trans b2)),q⟩) fun zz zz e=>e);rw[slicePick_upto'];show VRs _ ((is.take b).map _) _;rw[List.map_take];exact(qs.mono fun zz zz zz zz e zz zz=>BC _ e).take)) fun zz zz e=>e)
variable {c c':HS} {L L':AY} {K K':AA} {H C hp LV N T E Lf t dx:AB} {cells:List Int} {Z:ZT}
set_option maxHeartbeats 8000000 in
theorem ot(B:Ai)(R:Ah A 16)(fr:A.frames=some [])(M:Fz Z)(hS:Pc hb S is)(q:∀σ',Φ (.bool true) σ'):AF A (.ref 567) [.ref S] σ Φ:=by
 refine GQ (F:=(uD w)) (names:=["script"]) B R rfl (fun Lf=>?_) (FG fun zz=>rfl) rfl ∅
 ·refine AJ (XG R.handled (Ey (Zb1 (AG () (BB ⟨(50:Nat),rfl,S,is,50,rfl,hS,rfl,fun D nD nb=>
   ⟨D,BI (is.take 50),rfl,Ao _ _ _,trivial,(is.take 50).length,fun i ys σ'=>i≤(is.take 50).length∧σ'=upd σ D (.list (BI (is.take 50)))∧∃js:List Int,ys=BI js∧js.length=i∧∀x∈js,0≤x,⟨!Bc _,rfl,[],rfl,rfl,by simp⟩,by rw[Nv];exact lE,?_⟩⟩)))) ())
  rintro i ys a1 ⟨hi,rfl,js,rfl,a3,a2⟩;refine⟨hi,_,⟨_,Ao _ _ _,rfl⟩,?_⟩;have a6:(is.take 50).length≤50:=by rw[Nv];exact rQ
  cases hq:(BI (is.take 50))[i]? with
  |some x=>
   obtain⟨n,hn,rfl⟩:∃n,(is.take 50)[i]? =some n∧AV.int n=x:=by
    rw[CH]at hq;cases hz:(is.take 50)[i]? with
    |none=>rw[hz]at hq;cases hq
    |some n=>rw[hz]at hq;exact⟨n,rfl,An hq⟩
   have a7:=(BX.mp hn).1;intro Cc;refine CE (Bl B (zh w) oU (Aa (AG As (Zc2 (BB (Pq ⋯ ?_))))));refine⟨!a7,rfl,js++[(if n<0 then -n else n).fmod 1000003],by simp,by simp[a3],fun x hx=>?_⟩;rcases B9.mp hx with h|h
   ·exact a2 x h
   ·rw[Aq.mp h];exact Zea _ ⋯
  |none=>
   have b1:(is.take 50).length≤i:=by have:=GV.mp hq;rwa [AU]at this
   intro C nC a9;refine A2 ?_;have hC:upd (upd σ D (.list (BI (is.take 50)))) C (.list (BI js)) C=some (.list (BI js)):=Ao _ _ _;generalize upd (upd σ D (.list (BI (is.take 50)))) C (.list (BI js))=a1 at*;refine AJ (BR (Bt (BW (Zbj B fun H nH b0 H1=>AG As (BB (CE (CE (BB (Bl B (Z0 w) eA (Aa (AG As (Zcg (l:=C) (is:=js) R.handled (by rw[Av _ _ (by rintro rfl;exact Bf ((hC.symm.trans nH)))];exact hC) fun sm=>Jd (BB (Pq ⋯ ⟨Ao _ _ _,?_⟩))))))))))))));rw[show upd (upd a1 H (AO.dictS [])) H (.dictS (Aw (Aw (Aw [] "cells" (.ref C)) "spot" (.int 0)) "stir" (.int ((5+sm).fmod 1021))))=upd a1 H (F0 C 0 ((5+sm).fmod 1021)) by
    funext a;by_cases ha:a=H
    ·subst ha;rw[Ao,Ao];rfl
    ·rw[Av _ _ ha,Av _ _ ha,Av _ _ ha]]
   refine AI (Qg (a:=5+sm) (m:=1021) (!CX dy)) fun r hr er=>?_;rw[show((5+sm).fmod 1021)=(r:Int)from er];have a5:C≠H:=by rintro rfl;exact Bf ((hC.symm.trans nH))
   have a0:Iv (upd a1 H (F0 C 0 r)) H C js 0 r:=⟨Ao _ _ _,by rw[Av _ _ a5];exact hC,a2,!ln (AK (AK (Ac a3) hi) a6) rfl,!A5 o0,!A5 aO hr⟩;generalize upd a1 H (F0 C 0 r)=σ2 at*;refine LW B (NM B (kW w) ⟨_,.cl (oG w),AC.nil (y0 B (R.up rfl) fun L a8 x3 P3 a4=>⟨by simp,?_⟩)⟩ () () () ⋯) ();have X3:At a8 hs0 L (fun zz=>none) H C js:=⟨P3,fun a x e=>(nomatch e),⟨0,r,⟨by rw[x3 H (by rw[a0.h];simp)];exact a0.h,by rw[x3 C (by rw[a0.c];simp)];exact a0.c,a0.ok,a0.sz,a0.q0,a0.q1⟩⟩,fun f=>(by have:=a4 H f;exact Bf ((a0.h.symm.trans this))),fun f=>(by have:=a4 C f;exact Bf ((a0.c.symm.trans this)))⟩;refine Ex R.handled (.tup _) rfl (BY (A2 (BY (A2 (Da ?_)))));have r0:∀{y:Str},y≠("hand":Str)→y≠("heap_now":Str)→put (put (put (B4 ["script"] [.ref S]) "cells" (.ref C)) "hand" (.ref H)) "heap_now" (.ref (L .hp)) y=put (B4 ["script"] [.ref S]) "cells" (.ref C) y:=fun h1 h2=>by rw[AN h2,AN h1]
   have r1:put (put (put (B4 ["script"] [.ref S]) "cells" (.ref C)) "hand" (.ref H)) "heap_now" (.ref (L .hp)) "heap_now"=some (.ref (L .hp)):=As;have r7:put (put (put (B4 ["script"] [.ref S]) "cells" (.ref C)) "hand" (.ref H)) "heap_now" (.ref (L .hp)) "hand"=some (.ref H):=by rw[AN ⋯];exact As
   generalize put (put (put (B4 ["script"] [.ref S]) "cells" (.ref C)) "hand" (.ref H)) "heap_now" (.ref (L .hp))=ρ1 at*;exact pZ B (R.deeper _) (Ke fr) X3 rfl M r1 r7 q
def Cg(n:Nat)(f:Nat→Nat):Nat:=((B3 n).map f).sum
theorem HB(n:Nat)(f:Nat→Nat):Cg (n+1) f=Cg n f+f n:=by
 unfold Cg;rw[i7,Cr,List.sum_append];exact rfl
theorem Km{n:Nat}{f g:Nat→Nat}(h:∀i<n,f i=g i):Cg n f=Cg n g:=by
 unfold Cg;rw[Dr fun i m=>h i (MA.mp m)]
theorem Qh{n k:Nat}{f g:Nat→Nat}(hk:k<n)(h:∀i<n,i≠k→g i=f i):Cg n g+f k=Cg n f+g k:=by
 induction n with
 |zero=>exact Hq xy hk
 |succ n ih=>
  rw[HB,HB];by_cases e:k=n
  ·subst e;rw[Km (f:=g) (g:=f) fun i m=>h i (!GU m) (!Bm m)];exact BS tg
  ·have:=ih (!Am U7 hk e) fun i m=>h i (!GU m);have:=h n (!A9 _) (Ne.symm e);exact cT uQ (by assumption) this
theorem VV{n k m:Nat}{f g:Nat→Nat}(hk:k<n)(hg:m<n)(ne:k≠m)(h:∀i<n,i≠k→i≠m→g i=f i):Cg n g+(f k+f m)=Cg n f+(g k+g m):=by
 have a:=Qh (f:=f) (g:=fun i=>if i=k then g k else f i) hk fun i zz hi=>by show(if i=k then _ else _)=_;rw[if_neg hi]
 have b:=Qh (f:=fun i=>if i=k then g k else f i) (g:=g) hg fun i hi hn=>by
  show _=(if i=k then _ else _);by_cases e:i=k
  ·rw[if_pos e,e]
  ·rw[if_neg e];exact h i hi e hn
 rw[if_pos rfl]at a;rw[if_neg (Ne.symm ne)]at b;exact zU kM (by assumption) (by assumption)
theorem yx{n k:Nat}{f:Nat→Nat}(m:k<n):f k≤Cg n f:=by
 induction n with
 |zero=>exact BS qT m
 |succ n ih=>
  rw[HB];by_cases e:k=n
  ·subst e;exact Am y7
  ·have:=ih (!Am U7 m e);exact BS kS this
theorem fg{n:Nat}{f g:Nat→Nat}(h:∀i<n,f i≤g i):Cg n f≤Cg n g:=by
 induction n with
 |zero=>exact A9 _
 |succ n ih=>
  rw[HB,HB];have:=ih fun i m=>h i (!GU m);have:=h n (!A9 _);exact Cb dg (by assumption) this
theorem ZM(n:Nat)(f g:Nat→Nat):Cg n (fun i=>f i+g i)=Cg n f+Cg n g:=by
 induction n with
 |zero=>rfl
 |succ n m=>rw[HB,HB,HB,m];exact Cb wj
theorem SH(n:Nat):Cg n (fun zz=>0)=0:=by
 induction n with
 |zero=>rfl
 |succ n m=>rw[HB,m]
theorem t8(n k:Nat):Cg n (fun i=>if i=k then 1 else 0)≤1:=by
 by_cases hk:k<n
 ·have:=Qh (f:=fun zz=>0) (g:=fun i=>if i=k then 1 else 0) hk fun i zz m=>if_neg m;rw[SH,if_pos rfl]at this;exact Ac this
 ·rw[Km (g:=fun zz=>0) fun i m=>if_neg (!Bm (AK m (EM hk))),SH];exact ld rfl
theorem wk(n:Nat):∀(ks:List Nat),Cg n (fun i=>if i∈ks then 1 else 0)≤ks.length:=by
 intro ks
 induction ks with
 |nil=>
  rw[Km (g:=fun zz=>0) fun i zz=>if_neg (by simp),SH];exact A9 _
 |cons k ks m=>
  have h1:=m;have h2:=t8 n k;have h3:Cg n (fun i=>if i∈k::ks then 1 else 0)≤Cg n (fun i=>(if i=k then 1 else 0)+if i∈ks then 1 else 0):=fg fun i zz=>by
   by_cases e:i=k
   ·simp[e]
   ·by_cases e':i∈ks<;>simp[e,e']
  rw[ZM]at h3;simp only[Tb];exact Cb lQ h1 h2 h3
end
section
variable {c d:HS}
structure Cx(c d:HS):Prop where
 eq:c={d with waiting:=c.waiting,marks:=c.marks,backs:=c.backs,abo:=c.abo}
 abo:∀k,AH c.abo k=AH d.abo k
 ndc:(c.abo.map (·.1)).Nodup
 ndd:(d.abo.map (·.1)).Nodup
theorem Cx.refl(n:(c.abo.map (·.1)).Nodup):Cx c c:=⟨rfl,fun m=>rfl,n,n⟩
def Kq(d:HS)(w:List Nat)(m:List (Nat×List Nat))(b:Int)(a:List (Nat×List Nat)):HS:={d with waiting:=w,marks:=m,backs:=b,abo:=a}
theorem Cx.trans(x:Cx c d)(y:Cx d e):Cx c e:=by
 refine⟨?_,fun k=>(x.abo k).trans (y.abo k),x.ndc,y.ndd⟩;have m:=x.eq;have n:=y.eq;rw[n]at m;exact m
theorem Cx.ab(x:Cx c d)(i:Nat):c.ab i=d.ab i:=by unfold HS.ab;rw[x.abo]
abbrev B7(c:HS)(i:Nat):Prop:=c.uab[i]? =some i
structure WF(c:HS):Prop where
 n14:c.nodes.length≤14
 uab:c.uab.length=c.nodes.length
 lots:c.lots.length=c.nodes.length
 wts:c.wts.length=c.nodes.length
 dps:c.dps.length=c.nodes.length
 nums:c.nums=c.nodes.zipIdx
 dup:c.nodes.Nodup
 ops:∀nd∈c.nodes,Cs nd.1
 kid:∀(n:Nat)(nd:Nd),c.nodes[n]? =some nd→nd.2.length≤2∧∀k∈nd.2,k<n
 U:By c.uab
 ndA:(c.abo.map (·.1)).Nodup
 abo:∀k,AH c.abo k≠none↔B7 c k
 asum:Cg c.nodes.length (fun i=>(c.ab i).length)≤2*c.nodes.length
 abl:∀i,∀n∈c.ab i,n<c.nodes.length
 kn:∀k n,AH c.known k=some n→n<c.nodes.length
 roots:Cg c.nodes.length (fun i=>if B7 c i then 1 else 0)+c.merged.length=c.nodes.length
 fr:c.forest.length=c.merged.length
 ch:c.changes.length=c.known.length+c.edges.length+c.made
 lsum:Cg c.nodes.length (fun i=>if B7 c i then(c.lots[i]?.getD []).length else 0)≤c.nodes.length
 lone:∀(i:Nat)(l:List Nat),c.lots[i]? =some l→l.length≤c.nodes.length
 pl:∀e∈c.edges,G6 e
 made:c.made=c.nodes.length
theorem WF.same(W:WF c)(x:Cx d c):WF d:=by
 have h1:∀k,AH d.abo k≠none↔B7 c k:=fun k=>by rw[x.abo];exact W.abo k
 have h2:Cg c.nodes.length (fun i=>(d.ab i).length)≤2*c.nodes.length:=by
  rw[Km fun i zz=>congrArg _ (x.ab i)];exact W.asum
 have h4:∀i,∀n∈d.ab i,n<c.nodes.length:=fun i=>by rw[x.ab];exact W.abl i
 have key:∀w m b a,(a.map (·.1)).Nodup→(∀k,AH a k≠none↔B7 c k)→Cg c.nodes.length (fun i=>((Kq c w m b a).ab i).length)≤2*c.nodes.length→(∀i,∀n∈(Kq c w m b a).ab i,n<c.nodes.length)→WF (Kq c w m b a):=fun w m b a h3 h1 h2 h4=>
  ⟨W.n14,W.uab,W.lots,W.wts,W.dps,W.nums,W.dup,W.ops,W.kid,W.U,h3,h1,h2,h4,W.kn,W.roots,W.fr,W.ch,W.lsum,W.lone,W.pl,W.made⟩
 exact(congrArg WF x.eq).mpr (key d.waiting d.marks d.backs d.abo x.ndc h1 h2 h4)
theorem Uq{n:Nat}:∀{l:List Nat},l.Nodup→(∀x∈l,x<n)→l.length≤n:=by
 induction n with
 |zero=>
  intro l _ h;cases l with
  |nil=>exact A9 _
  |cons x l=>exact absurd (h x (.head _)) (Li _)
 |succ n m=>
  intro l nd h;have:=m (nd.erase n) fun x hx=>by
   have:=nd.mem_erase_iff.mp hx;exact Nat.lt_of_le_of_ne (Nat.le_of_lt_succ (h x this.2)) this.1
  rw[List.length_erase]at this;split at this
  ·exact Nat.le_add_of_sub_le this
  ·exact GU this
theorem R7{K V:Type}[DecidableEq K]{g:List (K×V)}{k:K}(h:k∈g.map (·.1)):AH g k≠none:=fun e=>MP e h
theorem WF.root_lt(W:WF c)(h:B7 c i):i<c.nodes.length:=by rw[←W.uab];exact(BX.mp h).1
theorem WF.ab_le(W:WF c)(i:Nat):(c.ab i).length≤28:=by
 by_cases h:B7 c i
 ·have m:=yx (f:=fun i=>(c.ab i).length) (W.root_lt h);have:=W.asum;have:=W.n14;have m:(c.ab i).length≤_:=m;exact BS uJ (by assumption) (by assumption) this
 ·have:AH c.abo i=none:=by
   cases n:AH c.abo i with
   |none=>rfl
   |some l=>exact absurd ((W.abo i).mp (by rw[n];exact Ag _)) h
  unfold HS.ab;rw[this];exact Bc _
theorem WF.merged(W:WF c):c.merged.length≤c.nodes.length:=by have:=W.roots;exact BS jL this
theorem WF.known_le(W:WF c)(k:c.known.length+c.waiting.length≤c.nodes.length+28*c.merged.length):c.known.length+c.waiting.length≤406:=by
 have:=W.merged;have:=W.n14;exact Cb zX k (by assumption) this
theorem WF.sane(W:WF c)(kw:c.known.length+c.waiting.length≤c.nodes.length+28*c.merged.length)(ed:c.edges.length≤100):Dw c:=by
 have hk:=W.known_le kw;have m:=W.n14;have hm:=W.merged;have hu:=W.uab;refine⟨W.U,⟨by rw[W.lots,W.uab],fun l hl=>?_,!ln (AK hm m) rfl⟩,⟨!ln m rfl,W.wts,W.dps,by rw[W.nums,Em]⟩,hu.symm,fun n nd h=>⟨(W.kid n nd h).1,fun k hk=>?_⟩,fun i hi=>?_,fun k n h=>by rw[hu];exact W.kn k n h,!Am tZ hk,?_,!ln ed rfl,by rw[W.fr];exact ln (AK hm m) rfl,!Am j0 hk,?_⟩
 ·refine AX (Tu hl) fun i hi=>?_;have:=W.lone i l hi;exact ln (AK this m) rfl
 ·have:=(W.kid n nd h).2 k hk;have:=(BX.mp h).1;exact Cb ow hu (by assumption) this
 ·refine AX (Ee.mp ((W.abo i).mpr hi)) fun l hl=>?_;refine⟨l,hl,?_⟩;have:=W.ab_le i;unfold HS.ab at this;rw[hl]at this;exact AK this (!ld rfl)
 ·rw[W.ch,W.made];exact Hq yn kw ed m hm
 ·have:=Uq W.ndA (n:=c.nodes.length) fun x hx=>W.root_lt ((W.abo x).mp (R7 hx));rw[AU]at this;exact ln (AK this m) rfl
theorem Pb{ab:List Nat}{i:Nat}(h:ab.length≤i):root ab i=i:=by
 rw[RL,if_neg];rintro⟨x,e,_⟩;have:=(BX.mp e).1;exact EI _ (AK (CD h) this)
theorem bE(U:By ab)(i:Nat):root (ab++[ab.length]) i=root ab i:=by
 induction i using YF with
 |ind i ih=>
  by_cases m:i<ab.length
  ·have e:ab[i]? =some ab[i]:=Dq m;have n:(ab++[ab.length])[i]? =some ab[i]:=by rw[El m];exact e
   have hl:=U.le i _ e;by_cases h:ab[i]<i
   ·rw[LI e h,LI n h];exact ih _ h
   ·have h:ab[i]=i:=by exact Ej hl (EM h)
    rw[h]at e n;rw[G5 e,G5 n]
  ·rw[Pb (ab:=ab) (!EM m)];by_cases h:i=ab.length
   ·subst h;exact G5 (by simp)
   ·exact Pb (by simp;exact Am Zap m h)
theorem xa(U:By ab)(hk:ab[k]? =some k)(hg:ab[g]? =some g)(l:k<g)(i:Nat):root (ab.set g k) i=if root ab i=g then k else root ab i:=by
 have gl:=(BX.mp hg).1;have ek:(ab.set g k)[k]? =some k:=by rw[Hy (!HP l)];exact hk
 induction i using YF with
 |ind i ih=>
  by_cases m:i<ab.length
  ·by_cases n:i=g
   ·subst n;rw[G5 hg,if_pos rfl,LI (x:=k) (by rw[Jo gl]) l,G5 ek]
   ·have e:ab[i]? =some ab[i]:=Dq m;have e':(ab.set g k)[i]? =some ab[i]:=by rw[Hy (Ne.symm n)];exact e
    have hl:=U.le i _ e;by_cases h:ab[i]<i
    ·rw[LI e h,LI e' h];exact ih _ h
    ·have h:ab[i]=i:=by exact Ej hl (EM h)
     rw[h]at e e';rw[G5 e,G5 e',if_neg n]
  ·rw[Pb (ab:=ab) (!Am dn m),Pb (by rw[Ij];exact Am dn m),if_neg (!BS ro gl m)]
theorem By.union(U:By ab)(l:k<g):By (ab.set g k):=by
 refine⟨fun i x e=>?_,by rw[Ij];exact U.sz⟩;by_cases h:g=i
 ·subst h;have m:g<ab.length:=by have:=(BX.mp e).1;rwa [Ij]at this
  obtain rfl:=An (((Jo m).symm.trans e));exact Ct l
 ·rw[Hy h]at e;exact U.le i x e
def kn(c:HS)(n:Nat):HS:={c with known:=c.known++[(c.canon n,n)],changes:=c.changes++[.known (c.canon n)]}
theorem WF.kn1(W:WF c)(hn:n<c.nodes.length):WF (Internal.kn c n):=by
 refine⟨W.n14,W.uab,W.lots,W.wts,W.dps,W.nums,W.dup,W.ops,W.kid,W.U,W.ndA,W.abo,W.asum,W.abl,fun k m h=>?_,W.roots,W.fr,?_,W.lsum,W.lone,W.pl,W.made⟩
 ·change AH (c.known++_) k=_ at h;rw[Hc]at h;cases hq:AH c.known k with
  |some y=>rw[hq]at h;cases h;exact W.kn k _ hq
  |none=>
   rw[hq]at h;split at h
   ·obtain rfl:=An h;exact hn
   ·exact Au h
 ·show(c.changes++_).length=(c.known++_).length+_+_;have:=W.ch;simp only[BJ,C5];show _=_+c.edges.length+c.made;exact Cb y9 this
def jn(c:HS)(k g a b:Nat)(r:AV):HS:={HC c k g with changes:=c.changes++[.edge k (c.ab k).length g (c.ab g)],edges:=c.edges++[.tup [.int a,.int b,r]],forest:=c.forest++[c.edges.length],waiting:=c.waiting++c.ab g,abo:=Aw (BP c.abo g) k (c.ab k++c.ab g)}
theorem Zx(h:c.find a≠c.find b):c.join a b r=jn c (min (c.find a) (c.find b)) (max (c.find a) (c.find b)) a b r:=by
 unfold HS.join jn;rw[if_neg h]
structure Kz(c:HS)(k g:Nat):Prop where
 hk:B7 c k
 hg:B7 c g
 lt:k<g
variable {k g a b:Nat} {r:AV}
theorem WF.two(W:WF c)(n:a<c.nodes.length)(hb:b<c.nodes.length)(h:c.find a≠c.find b):Kz c (min (c.find a) (c.find b)) (max (c.find a) (c.find b)):=by
 refine AL (Vz c W.U (a:=a) (b:=b) (by rw[W.uab];exact n) (by rw[W.uab];exact hb)) fun h1 m=>?_;exact⟨h1,m,!dW h⟩
theorem Ki(U:By c.uab)(T:Kz c k g)(i:Nat):(jn c k g a b r).find i=if c.find i=g then k else c.find i:=xa U T.hk T.hg T.lt i
theorem T9(i:Nat):AH (jn c k g a b r).abo i=if i=k then some (c.ab k++c.ab g)else if i=g then none else AH c.abo i:=by
 show AH (Aw (BP c.abo g) k _) i=_;rw[Di,Sj]
theorem OH(i:Nat):(jn c k g a b r).ab i=if i=k then c.ab k++c.ab g else if i=g then[]else c.ab i:=by
 unfold HS.ab;rw[T9];split
 ·rfl
 ·split<;>rfl
theorem ON(T:Kz c k g)(i:Nat):B7 (jn c k g a b r) i↔B7 c i∧i≠g:=by
 have m:=(BX.mp T.hg).1;have l:=T.lt;show(c.uab.set g k)[i]? =some i↔_;by_cases h:g=i
 ·subst h;rw[Jo m];simp;exact Bm l
 ·rw[Hy h];exact⟨fun e=>⟨e,Ne.symm h⟩,fun e=>e.1⟩
theorem tc(n:(c.abo.map (·.1)).Nodup):((jn c k g a b r).abo.map (·.1)).Nodup:=by
 show((Aw (BP c.abo g) k _).map (·.1)).Nodup;have h:((BP c.abo g).map (·.1)).Nodup:=(YL.map _).nodup n;rw[RV];split
 ·exact h
 ·rename_i q;have:=MP (by simpa using q);rw[Nm];exact⟨h,by simp,fun x hx y m e=>by rw[Aq]at m;subst m;subst e;exact this hx⟩
def Ud(c:HS):Prop:=∀{k:Nat}{g:Nat}{a:Nat}{b:Nat}{r:AV}(W:WF c)(T:Kz c k g)(m:G6 (.tup [.int a,.int b,r])),WF (jn c k g a b r)
def bq:HS→Prop:=fun t=>Ud t
def u5:=zE bq Dy
def BK:=u5
theorem lD:Ud BK:=fun{k}{g}{a}{b}{r} W T hr=>by
 have hl:=T.lt;have a2:=W.root_lt T.hg;have a0:=W.root_lt T.hk;have s1:=VV (f:=fun i=>(BK.ab i).length) (g:=fun i=>((jn BK k g a b r).ab i).length) a0 a2 (!Bm hl) fun i zz m h2=>by
  show((jn BK k g a b r).ab i).length=_;rw[OH,if_neg m,if_neg h2]
 have s2:=Qh (f:=fun i=>if B7 BK i then 1 else 0) (g:=fun i=>if B7 (jn BK k g a b r) i then 1 else 0) a2 fun i zz m=>by
  have:=ON (a:=a) (b:=b) (r:=r) T i;by_cases h:B7 BK i
  ·rw[if_pos h,if_pos (this.mpr ⟨h,m⟩)]
  ·rw[if_neg h,if_neg fun q=>h (this.mp q).1]
 have s3:=VV (f:=fun i=>if B7 BK i then(BK.lots[i]?.getD []).length else 0) (g:=fun i=>if B7 (jn BK k g a b r) i then((jn BK k g a b r).lots[i]?.getD []).length else 0) a0 a2 (!Bm hl) fun i zz m h2=>by
  have:=ON (a:=a) (b:=b) (r:=r) T i;have e:(jn BK k g a b r).lots[i]? =BK.lots[i]? :=by show(BK.lots.set k _)[i]? =_;rw[Hy (Ne.symm m)]
  by_cases h:B7 BK i
  ·rw[if_pos h,if_pos (this.mpr ⟨h,h2⟩),e]
  ·rw[if_neg h,if_neg fun q=>h (this.mp q).1]
 have ek:(jn BK k g a b r).lots[k]? =some ((BK.lots[k]?.getD [])++(BK.lots[g]?.getD [])):=by
  show(BK.lots.set k _)[k]? =_;rw[Jo (by rw[W.lots];exact a0)]
 have rk:B7 (jn BK k g a b r) k:=(ON T k).mpr ⟨T.hk,!Bm hl⟩;have rg:¬B7 (jn BK k g a b r) g:=fun q=>((ON T g).mp q).2 rfl;have s1:_+((BK.ab k).length+(BK.ab g).length)=_+(((jn BK k g a b r).ab k).length+((jn BK k g a b r).ab g).length):=s1;rw[OH,OH,if_pos rfl,if_neg (!HP hl),if_pos rfl,BJ]at s1;have s2:_+(if B7 BK g then 1 else 0)=_+(if B7 (jn BK k g a b r) g then 1 else 0):=s2;rw[if_pos T.hg,if_neg rg]at s2;have s3:_+((if B7 BK k then(BK.lots[k]?.getD []).length else 0)+(if B7 BK g then(BK.lots[g]?.getD []).length else 0))=_+((if B7 (jn BK k g a b r) k then((jn BK k g a b r).lots[k]?.getD []).length else 0)+(if B7 (jn BK k g a b r) g then((jn BK k g a b r).lots[g]?.getD []).length else 0)):=s3;rw[if_pos T.hk,if_pos T.hg,if_pos rk,if_neg rg,ek,jH,BJ]at s3;have a3:=W.asum;have a1:=W.roots;have a4:=W.lsum;refine⟨W.n14,by show(BK.uab.set g k).length=_;rw[Ij];exact W.uab,by show(BK.lots.set k _).length=_;rw[Ij];exact W.lots,W.wts,W.dps,W.nums,W.dup,W.ops,W.kid,W.U.union hl,tc W.ndA,fun i=>?_,?_,fun i n hn=>?_,W.kn,?_,?_,?_,?_,?_,?_,W.made⟩
 ·rw[T9,ON T];by_cases m:i=k
  ·subst m;rw[if_pos rfl];exact⟨fun zz=>⟨T.hk,!Bm hl⟩,fun zz=>!Ag _⟩
  ·rw[if_neg m];by_cases h2:i=g
   ·rw[if_pos h2];exact⟨fun h=>absurd rfl h,fun h=>absurd h2 h.2⟩
   ·rw[if_neg h2];exact⟨fun h=>⟨(W.abo i).mp h,h2⟩,fun h=>(W.abo i).mpr h.1⟩
 ·show Cg BK.nodes.length _≤2*BK.nodes.length;simp only[List.length_nil]at s1;exact Hq wR s1 a3
 ·rw[OH]at hn;show n<BK.nodes.length;split at hn
  ·exact(B9.mp hn).elim (W.abl k n) (W.abl g n)
  ·split at hn
   ·cases hn
   ·exact W.abl i n hn
 ·show Cg BK.nodes.length _+(BK.merged++[(k,g)]).length=BK.nodes.length;rw[BJ,C5];exact Cb xJ s2 a1
 ·show(BK.forest++_).length=(BK.merged++_).length;rw[BJ,BJ,W.fr];rfl
 ·show(BK.changes++_).length=BK.known.length+(BK.edges++_).length+BK.made;have:=W.ch;rw[BJ,BJ,C5,C5];exact Cb Z2 this
 ·show Cg BK.nodes.length _≤BK.nodes.length;exact Hq vb s3 a4
 ·intro i l h;show l.length≤BK.nodes.length;by_cases m:i=k
  ·subst m;obtain rfl:=An ((ek.symm.trans h));have:=VV (f:=fun zz=>0) (g:=fun j=>if j=i then(BK.lots[i]?.getD []).length else if j=g then(BK.lots[g]?.getD []).length else 0) a0 a2 (!Bm hl) fun j zz m h2=>by
    show(if _ then _ else _)=_;rw[if_neg m,if_neg h2]
   have q:=fg (n:=BK.nodes.length) (f:=fun j=>if j=i then(BK.lots[i]?.getD []).length else if j=g then(BK.lots[g]?.getD []).length else 0) (g:=fun i=>if B7 BK i then(BK.lots[i]?.getD []).length else 0) fun j zz=>by
    show(if _ then _ else _)≤(if _ then _ else _);by_cases m:j=i
    ·subst m;rw[if_pos rfl,if_pos T.hk];exact A9 _
    ·rw[if_neg m];by_cases h2:j=g
     ·subst h2;rw[if_pos rfl,if_pos T.hg];exact A9 _
     ·rw[if_neg h2];exact Bc _
   rw[SH,if_pos rfl,if_neg (!HP hl),if_pos rfl]at this;rw[BJ];exact Hq nJ a4 this q
  ·have e:(jn BK k g a b r).lots[i]? =BK.lots[i]? :=by show(BK.lots.set k _)[i]? =_;rw[Hy (Ne.symm m)]
   rw[e]at h;exact W.lone i l h
 ·intro e he;rcases B9.mp he with h|h
  ·exact W.pl e h
  ·rw[Aq.mp h];exact hr
theorem WF.jn1{c}:Ud c:=@zF _ bq Dy @lD c
def lj(c:HS)(k a b:Nat)(r:AV):HS:={c with changes:=c.changes++[.loose k (c.ab k).length k],edges:=c.edges++[.tup [.int a,.int b,r]]}
theorem xQ(h:c.find a=c.find b):c.join a b r=lj c (c.find a) a b r:=by
 unfold HS.join lj;rw[if_pos h,←h,Nat.min_self]
theorem WF.lj1(W:WF c)(n:G6 (.tup [.int a,.int b,r])):WF (lj c k a b r):=by
 refine⟨W.n14,W.uab,W.lots,W.wts,W.dps,W.nums,W.dup,W.ops,W.kid,W.U,W.ndA,W.abo,W.asum,W.abl,W.kn,W.roots,W.fr,?_,W.lsum,W.lone,?_,W.made⟩
 ·show(c.changes++_).length=c.known.length+(c.edges++_).length+c.made;have:=W.ch;rw[BJ,BJ,C5,C5];exact Cb Z2 this
 ·intro e m;rcases B9.mp m with h|h
  ·exact W.pl e h
  ·rw[Aq.mp h];exact n
end
section
variable {c d:HS}
theorem lK:∀{ks:List Nat}{ab:List (Nat×List Nat)}{j:Nat},ks.Nodup→AH (ks.foldl (EQ n) ab) j=if j∈ks then some ((AH ab j).getD []++[n])else AH ab j:=by
 intro ks
 induction ks with
 |nil=>
  intro ab j _;exact rfl
 |cons k ks m=>
  intro ab j nd;have nd:=FM.mp nd;rw[MB,m nd.2,Tw];by_cases h:j=k
  ·subst h;rw[if_pos rfl,if_neg nd.1,if_pos (Dg ..)]
  ·rw[if_neg h];by_cases h':j∈ks
   ·rw[if_pos h',if_pos (TT _ h')]
   ·rw[if_neg h',if_neg (by rw[A7,not_or];exact⟨h,h'⟩)]
theorem z8:∀{ks:List Nat}{ab:List (Nat×List Nat)}{j:Nat},ks.Nodup→AH (ks.foldl Cv ab) j=if j∈ks then some ((AH ab j).getD []).dropLast else AH ab j:=by
 intro ks
 induction ks with
 |nil=>
  intro ab j _;exact rfl
 |cons k ks m=>
  intro ab j nd;have nd:=FM.mp nd;rw[MB,m nd.2];unfold Cv;rw[Di];by_cases h:j=k
  ·subst h;rw[if_pos rfl,if_neg nd.1,if_pos (Dg ..)]
  ·rw[if_neg h];by_cases h':j∈ks
   ·rw[if_pos h',if_pos (TT _ h')]
   ·rw[if_neg h',if_neg (by rw[A7,not_or];exact⟨h,h'⟩)]
theorem Rq{K V:Type}[DecidableEq K]{g:List (K×V)}{k:K}{v:V}(n:(g.map (·.1)).Nodup):((Aw g k v).map (·.1)).Nodup:=by
 rw[RV];split
 ·exact n
 ·rename_i q;have:=MP (by simpa using q);rw[Nm];exact⟨n,by simp,fun x hx y m e=>by rw[Aq]at m;subst m;subst e;exact this hx⟩
theorem au(hf:∀ab k,(ab.map (·.1)).Nodup→((f ab k).map (·.1)).Nodup):∀{ks:List Nat}{ab:List (Nat×List Nat)},(ab.map (·.1)).Nodup→((ks.foldl f ab).map (·.1)).Nodup:=by
 intro ks
 induction ks with
 |nil=>
  intro ab n;exact n
 |cons k ks m=>
  intro ab n;exact m (hf ab k n)
theorem cL(xs:List Nat):(ss xs).Nodup:=(Pd xs).imp fun h=>Bm h
def CI(c:HS)(nd:Nd)(w d:Int):HS:={FS c nd w d with changes:=c.changes++[.made c.nodes.length],made:=c.nodes.length+1}
structure KF(c:HS)(nd:Nd):Prop where
 op:Cs nd.1
 two:nd.2.length≤2
 lt:∀k∈nd.2,k<c.nodes.length
 new:nd∉c.nodes
 n:c.nodes.length<14
variable {nd:Nd} {w x:Int}
abbrev FZ(c:HS)(nd:Nd):List Nat:=ss (nd.2.map c.find)
theorem KD(W:WF c)(i:Nat):(CI c nd w x).find i=c.find i:=bE W.U i
theorem M0(W:WF c)(Q:KF c nd)(h:j∈FZ c nd):B7 c j∧j<c.nodes.length:=by
 refine AI (BD.mp (M5.mp h)) fun k n m=>?_;subst m;have:=Q.lt k n;have r:B7 c (c.find k):=M9 W.U (by rw[W.uab];exact this);exact⟨r,W.root_lt r⟩
theorem cz(W:WF c):(CI c nd w x).abo=(FZ c nd).foldl (EQ c.nodes.length) (c.abo++[(c.nodes.length,[])]):=by
 show(ss (nd.2.map (root (c.uab++[c.uab.length])))).foldl (EQ c.uab.length) (c.abo++[(c.uab.length,[])])=_;rw[Dr fun i m=>bE W.U i,W.uab];rfl
theorem WF.abo_top(W:WF c):AH c.abo c.nodes.length=none:=by
 cases m:AH c.abo c.nodes.length with
 |none=>rfl
 |some l=>have:=W.root_lt ((W.abo _).mp (by rw[m];exact Ag _));exact absurd this (EI _)
theorem Vn(W:WF c)(Q:KF c nd)(j:Nat):AH (CI c nd w x).abo j=if j∈FZ c nd then some (c.ab j++[c.nodes.length])else if j=c.nodes.length then some []else AH c.abo j:=by
 rw[cz W,lK (cL _),Hc];by_cases h:j∈FZ c nd
 ·refine AL (M0 W Q h) fun n m=>?_;rw[if_pos h,if_pos h,if_neg (!Bm m),YJ];rfl
 ·rw[if_neg h,if_neg h];by_cases e:j=c.nodes.length
  ·subst e;rw[if_pos rfl,if_pos rfl,W.abo_top];rfl
  ·rw[if_neg e,if_neg e,YJ]
theorem RC(W:WF c)(Q:KF c nd)(j:Nat):(CI c nd w x).ab j=if j∈FZ c nd then c.ab j++[c.nodes.length]else c.ab j:=by
 unfold HS.ab;rw[Vn W Q];by_cases h:j∈FZ c nd
 ·rw[if_pos h,if_pos h];rfl
 ·rw[if_neg h,if_neg h];by_cases e:j=c.nodes.length
  ·subst e;rw[if_pos rfl,W.abo_top];rfl
  ·rw[if_neg e]
theorem R6{xs:List α}{x y:α}{i:Nat}(h:(xs++[x])[i]? =some y):(i<xs.length∧xs[i]? =some y)∨(i=xs.length∧y=x):=by
 by_cases m:i<xs.length
 ·rw[El m]at h;exact .inl ⟨m,h⟩
 ·have:=(BX.mp h).1;have e:i=xs.length:=by simp at this;exact Am ej m this
  subst e;simp at h;exact .inr ⟨rfl,h.symm⟩
theorem UT(W:WF c)(i:Nat):B7 (CI c nd w x) i↔B7 c i∨i=c.nodes.length:=by
 show(c.uab++[c.uab.length])[i]? =some i↔_;rw[←W.uab];constructor
 ·intro h;rcases R6 h with h|h
  ·exact .inl h.2
  ·exact .inr h.1
 ·rintro(h|rfl)
  ·rw[El (BX.mp h).1];exact h
  ·simp
theorem WF.mk1(W:WF c)(Q:KF c nd):WF (CI c nd w x):=by
 have hu:=W.uab;have hn:=Q.n;have hN:(CI c nd w x).nodes.length=c.nodes.length+1:=by show(c.nodes++[nd]).length=_;simp
 have rN:B7 (CI c nd w x) c.nodes.length:=(UT W _).mpr (.inr rfl);have rO:∀i<c.nodes.length,(B7 (CI c nd w x) i↔B7 c i):=fun i hi=>(UT W i).trans ⟨fun h=>h.elim id fun h=>absurd h (!Bm hi),.inl⟩;have lN:(CI c nd w x).lots[c.nodes.length]? =some [c.nodes.length]:=by show(c.lots++[[c.lots.length]])[_]? =_;rw[←W.lots];simp
 have lO:∀i<c.nodes.length,(CI c nd w x).lots[i]? =c.lots[i]? :=fun i hi=>by show(c.lots++[[c.lots.length]])[_]? =_;rw[El (by rw[W.lots];exact hi)]
 have hs:(FZ c nd).length≤2:=AK UY (by rw[AU];exact Q.two);refine⟨!AK (Ac hN) hn,?_,?_,?_,?_,?_,?_,fun m hm=>?_,fun n m h=>?_,W.U.snoc (!ln (AK (Ac hu) (Ct hn)) rfl),?_,fun i=>?_,?_,fun i n h=>?_,fun k n h=>?_,?_,W.fr,?_,?_,fun i l h=>?_,W.pl,?_⟩
 ·rw[hN];show(c.uab++_).length=_;simp[hu]
 ·rw[hN];show(c.lots++_).length=_;simp[W.lots]
 ·rw[hN];show(c.wts++_).length=_;simp[W.wts]
 ·rw[hN];show(c.dps++_).length=_;simp[W.dps]
 ·show c.nums++[(nd,c.nodes.length)]=(c.nodes++[nd]).zipIdx;rw[Nx,W.nums];simp
 ·show(c.nodes++[nd]).Nodup;rw[Nm];exact⟨W.dup,by simp,fun y hy z hz e=>by rw[Aq]at hz;subst hz;subst e;exact Q.new hy⟩
 ·rcases B9.mp hm with h|h
  ·exact W.ops m h
  ·rw[Aq.mp h];exact Q.op
 ·rcases R6 h with h|⟨rfl,rfl⟩
  ·exact W.kid n m h.2
  ·exact⟨Q.two,Q.lt⟩
 ·rw[cz W];refine au (fun ab k n=>Rq n) ?_;rw[Cr,Nm];refine⟨W.ndA,by simp,fun y hy z hz e=>?_⟩;simp at hz;subst hz;subst e;exact R7 hy W.abo_top
 ·rw[Vn W Q,UT W];by_cases h:i∈FZ c nd
  ·rw[if_pos h];exact⟨fun zz=>.inl (M0 W Q h).1,fun zz=>!Ag _⟩
  ·rw[if_neg h];by_cases e:i=c.nodes.length
   ·rw[if_pos e];exact⟨fun zz=>.inr e,fun zz=>!Ag _⟩
   ·rw[if_neg e];exact⟨fun h=>.inl ((W.abo i).mp h),fun h=>h.elim (W.abo i).mpr fun h=>absurd h e⟩
 ·rw[hN,HB];have h1:=W.asum;have h2:((CI c nd w x).ab c.nodes.length).length=0:=by
   rw[RC W Q,if_neg fun h=>by have:=(M0 W Q h).2;exact A5 Zm this];unfold HS.ab;rw[W.abo_top];rfl
  have h3:Cg c.nodes.length (fun i=>((CI c nd w x).ab i).length)=Cg c.nodes.length (fun i=>(c.ab i).length+if i∈FZ c nd then 1 else 0):=Km fun i zz=>by
   rw[RC W Q];by_cases h:i∈FZ c nd
   ·rw[if_pos h,if_pos h];simp
   ·rw[if_neg h,if_neg h];rfl
  have h4:=wk c.nodes.length (FZ c nd);rw[ZM]at h3;exact cT uA hs h1 h2 h3 h4
 ·rw[hN];rw[RC W Q]at h;split at h
  ·rcases B9.mp h with h|h
   ·exact Hx (W.abl i n h)
   ·rw[Aq.mp h];exact A9 _
  ·exact Hx (W.abl i n h)
 ·rw[hN];exact Hx (W.kn k n h)
 ·rw[hN,HB,if_pos rN,Km (g:=fun i=>if B7 c i then 1 else 0) fun i hi=>by
   by_cases h:B7 c i
   ·rw[if_pos h,if_pos ((rO i hi).mpr h)]
   ·rw[if_neg h,if_neg fun q=>h ((rO i hi).mp q)]]
  have:=W.roots;show _+c.merged.length=_;exact BS pA this
 ·show(c.changes++_).length=c.known.length+c.edges.length+(c.nodes.length+1);have h1:=W.ch;have h2:=W.made;rw[BJ,C5];exact Hq qH h1 h2
 ·rw[hN,HB,if_pos rN,lN,Km (g:=fun i=>if B7 c i then(c.lots[i]?.getD []).length else 0) fun i hi=>by
   by_cases h:B7 c i
   ·rw[if_pos h,if_pos ((rO i hi).mpr h),lO i hi]
   ·rw[if_neg h,if_neg fun q=>h ((rO i hi).mp q)]]
  have:=W.lsum;simp only[jH,C5];exact CD this
 ·rw[hN];rcases R6 (show(c.lots++[[c.lots.length]])[i]? =some l from h)with h|⟨_,rfl⟩
  ·have:=W.lone i l h.2;exact GU this
  ·exact Cu _
 ·rw[hN];rfl
end
section
variable {c d e:HS}
structure J3(c d:HS):Prop where
 len:c.changes.length=d.changes.length+1
 und:∀c2,Cx c2 c→∃d2,KJ c2 d2∧Cx d2 d∧d2.marks=c2.marks
theorem Cx.elim{P:HS→Prop}(x:Cx c d)(h:∀ab m ms n,(∀k,AH ab k=AH d.abo k)→(ab.map (·.1)).Nodup→P {d with waiting:=m,marks:=ms,backs:=n,abo:=ab}):P c:=by
 have:=h c.abo c.waiting c.marks c.backs x.abo x.ndc;rw[←x.eq]at this;exact this
theorem J3.of(l:c.changes.length=d.changes.length+1)(h:∀ab ws ms bs,(∀k,AH ab k=AH c.abo k)→(ab.map (·.1)).Nodup→∃m,KJ {c with waiting:=ws,marks:=ms,backs:=bs,abo:=ab} m∧Cx m d∧m.marks=ms):J3 c d:=
 ⟨l,fun n x=>x.elim (P:=fun n=>∃m,KJ n m∧Cx m d∧m.marks=n.marks) h⟩
theorem ZG{K V:Type}[DecidableEq K]{xs:List (K×V)}{k:K}{v:V}(h:AH xs k=none):BP (xs++[(k,v)]) k=xs:=by
 unfold BP;rw(config:={}) [iJ,Zdh.mpr fun p hp=>?_]
 ·simp
 ·have:=MP h;rw(config:={}) [decide_eq_true_eq];rintro rfl;exact this (Zef hp)
theorem qc(n:(c.abo.map (·.1)).Nodup)(h:AH c.known (c.canon i)=none)(z:c.known.length≤900):J3 (kn c i) c:=by
 refine .of (by show(c.changes++_).length=_;simp) fun ab ws ms bs m nd=>?_;refine⟨_,.known (chs:=c.changes) (k:=c.canon i) rfl ?_ ?_,⟨?_,m,nd,n⟩,rfl⟩
 ·show(AH (c.known++[(c.canon i,i)]) (c.canon i)).isSome=true;rw[Hc,h];simp
 ·show(c.known++_).length≤_;simp;exact ln z rfl
 ·show HS.mk _ _ _ _ _ _ _ _ _ (BP (c.known++[(c.canon i,i)]) (c.canon i)) _ _ _ _ _ _=_;rw[ZG h];rfl
theorem kK(n:(c.abo.map (·.1)).Nodup)(z:c.edges.length≤900):J3 (lj c k a b r) c:=
 .of (by show(c.changes++_).length=_;simp) fun ab ws ms bs m nd=>⟨_,.loose (chs:=c.changes) (es:=c.edges) rfl rfl (!ln z rfl),⟨rfl,m,nd,n⟩,rfl⟩
theorem YV(W:WF c)(T:Kz c k g)(z:c.edges.length≤900):J3 (jn c k g a b r) c:=by
 refine .of (by show(c.changes++_).length=_;simp) fun ab ws ms bs ha nd=>?_;have hl:=T.lt;have a4:=W.root_lt T.hg;have m:=W.root_lt T.hk;have hn:=W.n14;obtain⟨lk,a1⟩:∃l,c.lots[k]? =some l:=⟨_,Dq (by rw[W.lots];exact m)⟩;obtain⟨lg,a3⟩:∃l,c.lots[g]? =some l:=⟨_,Dq (by rw[W.lots];exact a4)⟩;have a2:∀i,AH ab i=if i=k then some (c.ab k++c.ab g)else if i=g then none else AH c.abo i:=fun i=>by rw[ha];exact T9 (a:=a) (b:=b) (r:=r) i
 have ok:Ml {jn c k g a b r with waiting:=ws,marks:=ms,backs:=bs,abo:=ab} c.edges (.tup [.int a,.int b,r]) c.forest c.edges.length c.merged k (c.ab k).length g lk lg (c.ab g) (c.ab k++c.ab g):=by
  have a5:=W.merged;refine⟨rfl,rfl,rfl,!Bm hl,by show g<(c.uab.set g k).length;rw[Ij,W.uab];exact a4,?_,?_,⟨?_,fun l h=>?_,?_⟩,by show(c.uab.set g k).length≤_;rw[Ij,W.uab];exact ln hn rfl,?_,?_,?_,?_,?_,?_⟩
  ·show(c.lots.set k ((c.lots[k]?.getD [])++(c.lots[g]?.getD [])))[k]? =_;rw[Jo (by rw[W.lots];exact m),a1,a3];rfl
  ·show(c.lots.set k _)[g]? =_;rw[Hy (!Bm hl)];exact a3
  ·show(c.lots.set k _).length=(c.uab.set g k).length;rw[Ij,Ij,W.lots,W.uab]
  ·refine AX (Tu h) fun i hi=>?_;change(c.lots.set k _)[i]? =_ at hi;by_cases e:k=i
   ·subst e;rw[Jo (by rw[W.lots];exact m),a1,a3]at hi;obtain rfl:=An hi;have:=W.lone _ _ a1;have:=W.lone _ _ a3;simp;exact BS pC hn (by assumption) this
   ·rw[Hy e]at hi;have:=W.lone _ _ hi;exact ln (AK this hn) rfl
  ·show(c.merged++_).length≤_;simp;exact ln (AK a5 hn) rfl
  ·show AH ab k=_;rw[a2,if_pos rfl]
  ·show AH ab g=_;rw[a2,if_neg (!Am tJ hl),if_pos rfl]
  ·have:=W.ab_le k;have:=W.ab_le g;simp;exact Am sS (by assumption) this
  ·show(c.edges++_).length≤_;simp;exact ln z rfl
  ·show(c.forest++_).length≤_;rw[BJ,W.fr];simp;exact ln (AK a5 hn) rfl
  ·show ab.length≤_;have:=Uq nd (n:=c.nodes.length) fun x hx=>by
    have:=R7 hx;rw[a2]at this;split at this
    ·exact BS tq m (by assumption)
    ·split at this
     ·exact absurd rfl this
     ·exact W.root_lt ((W.abo x).mp this)
   rw[AU]at this;exact ln (AK this hn) rfl
 refine⟨_,.edge (chs:=c.changes) rfl ok,⟨?_,fun i=>?_,?_,W.ndA⟩,rfl⟩
 ·show HS.mk _ _ _ _ ((c.uab.set g k).set g g) ((c.lots.set k ((c.lots[k]?.getD [])++(c.lots[g]?.getD []))).set k lk) _ _ _ _ _ _ _ _ _ _=HS.mk _ _ _ _ c.uab c.lots _ _ _ _ _ _ _ _ _ _;have e1:(c.uab.set g k).set g g=c.uab:=by
   rw[List.set_set];exact Tm fun i=>by
    by_cases h:g=i
    ·subst h;rw[Jo (by rw[W.uab];exact a4)];exact T.hg.symm
    ·rw[Hy h]
  have e2:(c.lots.set k ((c.lots[k]?.getD [])++(c.lots[g]?.getD []))).set k lk=c.lots:=by
   rw[List.set_set];exact Tm fun i=>by
    by_cases h:k=i
    ·subst h;rw[Jo (by rw[W.lots];exact m)];exact a1.symm
    ·rw[Hy h]
  rw[e1,e2];rfl
 ·show AH (Aw (Aw ab k ((c.ab k++c.ab g).take (c.ab k).length)) g (c.ab g)) i=_;have a0:∀j,B7 c j→AH c.abo j=some (c.ab j):=fun j hj=>by
   refine AX (Ee.mp ((W.abo j).mpr hj)) fun l hl=>?_;unfold HS.ab;rw[hl];rfl
  rw[Di,Di,a2,Tp rfl];by_cases h1:i=g
  ·subst h1;rw[if_pos rfl];exact(a0 _ T.hg).symm
  ·rw[if_neg h1];by_cases h2:i=k
   ·subst h2;rw[if_pos rfl];exact(a0 _ T.hk).symm
   ·rw[if_neg h2,if_neg h2,if_neg h1]
 ·show((Aw (Aw ab k _) g _).map (·.1)).Nodup;exact Rq (Rq nd)
theorem nP(W:WF c){w x:Int}(Q:KF c nd):J3 (CI c nd w x) c:=by
 refine .of (by show(c.changes++_).length=_;simp) fun ab ws ms bs ha a1=>?_;have hu:=W.uab;have hn:=Q.n;have WM:=W.mk1 (w:=w) (x:=x) Q;have m:∀j,AH ab j=if j∈FZ c nd then some (c.ab j++[c.nodes.length])else if j=c.nodes.length then some []else AH c.abo j:=fun j=>by rw[ha];exact Vn W Q j
 have hf:∀ws ms bs,ss (nd.2.map ({CI c nd w x with waiting:=ws,marks:=ms,backs:=bs,abo:=ab}:HS).find)=FZ c nd:=fun ws ms bs=>by
  show ss (nd.2.map (CI c nd w x).find)=ss (nd.2.map c.find);rw[Dr fun i _=>(KD W i:(CI c nd w x).find i=_)]
 have a0:AH c.nums nd=none:=by
  cases hq:AH c.nums nd with
  |none=>rfl
  |some i=>
   have:=LH hq;rw[W.nums]at this;exact absurd (List.fst_mem_of_mem_zipIdx this) Q.new
 have hz:ab.length≤1000:=by
  have:=Uq a1 (n:=c.nodes.length+1) fun y hy=>by
   have:=R7 hy;rw[m]at this;split at this
   ·rename_i h;have:=(M0 W Q h).2;exact GU this
   ·split at this
    ·exact Am oY (by assumption)
    ·have:=W.root_lt ((W.abo y).mp this);exact GU this
  rw[AU]at this;exact ln (AK this hn) rfl
 have ok:WX {CI c nd w x with waiting:=ws,marks:=ms,backs:=bs,abo:=ab} c.nodes.length nd c.nodes c.uab c.lots:=by
  refine⟨rfl,rfl,?_,hu,?_,W.lots,WM.U,⟨?_,WM.wts,WM.dps,by rw[show({CI c nd w x with waiting:=ws,marks:=ms,backs:=bs,abo:=ab}:HS).nums=(CI c nd w x).nums from rfl,WM.nums,Em]⟩,Q.two,Q.lt,?_,fun r hr=>?_,?_,hz⟩
  ·show c.uab++[c.uab.length]=_;rw[hu]
  ·show c.lots++[[c.lots.length]]=_;rw[W.lots]
  ·exact AK WM.n14 (!ld rfl)
  ·show(AH (c.nums++[(nd,c.nodes.length)]) nd).isSome=true;rw[Hc,a0];simp
  ·rw[hf]at hr;refine⟨c.ab r,c.nodes.length,?_,?_⟩
   ·show AH ab r=_;rw[m,if_pos hr]
   ·have:=W.ab_le r;exact ln this rfl
  ·show(AH ab c.nodes.length).isSome=true;rw[m,if_neg (fun h=>by have:=(M0 W Q h).2;exact A5 Zm this),if_pos rfl];rfl
 refine⟨_,.made (chs:=c.changes) rfl ok,⟨?_,fun i=>?_,?_,W.ndA⟩,rfl⟩
 ·show HS.mk (c.nodes++[nd]).dropLast (BP (c.nums++[(nd,c.nodes.length)]) nd) (c.wts++[_]).dropLast (c.dps++[_]).dropLast _ _ _ _ _ _ _ _ _ _ _ c.nodes.length=HS.mk c.nodes c.nums c.wts c.dps _ _ _ _ _ _ _ _ _ _ _ c.made;rw[jI,jI,jI,ZG a0,W.made];rfl
 ·show AH (BP ((ss (nd.2.map ({CI c nd w x with waiting:=ws,marks:=ms,backs:=bs,abo:=ab,changes:=c.changes}:HS).find)).foldl Cv ab) c.nodes.length) i=_;rw[show ss (nd.2.map ({CI c nd w x with waiting:=ws,marks:=ms,backs:=bs,abo:=ab,changes:=c.changes}:HS).find)=FZ c nd from hf ws ms bs,Sj,z8 (cL _),m];by_cases h1:i=c.nodes.length
  ·subst h1;rw[if_pos rfl,W.abo_top]
  ·rw[if_neg h1];by_cases h2:i∈FZ c nd
   ·rw[if_pos h2,if_pos h2];refine AX (Ee.mp ((W.abo i).mpr (M0 W Q h2).1)) fun l hl=>?_;unfold HS.ab;rw[hl];simp
   ·rw[if_neg h2,if_neg h2,if_neg h1]
 ·show((BP _ _).map (·.1)).Nodup;exact(YL.map _).nodup (au (fun ab k n=>Rq n) a1)
inductive Do(c0:HS):Nat→HS→Prop
 |refl {c:HS}:Cx c c0→Do c0 0 c
 |step {m:Nat} {c d:HS}:Do c0 m d→J3 c d→Do c0 (m+1) c
theorem Do.same(s:Do c0 m c)(x:Cx d c):Do c0 m d:=by
 cases s with
 |refl h=>exact .refl (x.trans h)
 |step h u=>exact .step h ⟨by rw[x.eq];exact u.len,fun n y=>u.und n (y.trans x)⟩
theorem Do.base(s:Do c0 m c)(x:Cx c0 c1):Do c1 m c:=by
 induction s with
 |refl h=>exact .refl (h.trans x)
 |step _ u n=>exact .step n u
theorem Do.trans(s:Do c0 m c1)(t:Do c1 n c):Do c0 (m+n) c:=by
 induction t with
 |refl h=>exact s.same h
 |step _ u ih=>exact .step ih u
theorem Do.len(s:Do c0 m c):c.changes.length=c0.changes.length+m:=by
 induction s with
 |refl h=>rw[h.eq];rfl
 |step _ u n=>rw[u.len,n];rfl
theorem Do.pop{c0:HS}{m:Nat}(s:Do c0 m c)(z:c.changes.length≤1000){ms:List (Nat×List Nat)}:∃J,OY c0.changes.length J∧(∀c',Cx c' c→c'.marks=ms→J m c')∧∀c',J 0 c'→Cx c' c0∧c'.marks=ms:=by
 refine⟨fun j c'=>c0.changes.length+j≤1000∧∃d,Do c0 j d∧Cx c' d∧c'.marks=ms,⟨fun j c' a1=>LD a1 fun h1 d h2 h3 zz=>?_,fun j c' a0=>LD a0 fun h1 d h2 h3 h4=>?_⟩,fun c' x e=>⟨by rw[←s.len];exact z,c,s,x,e⟩,fun c' n=>LD n fun zz d h2 h3 h4=>?_⟩
 ·have:c'.changes.length=c0.changes.length+j:=(h2.same h3).len;exact⟨this,!AK (Ac this) h1⟩
 ·cases h2 with
  |step t u=>
   refine B2 (u.und c' h3) fun d2 k1 k2 k3=>?_;exact⟨d2,k1,Ct h1,_,t,k2,k3.trans h4⟩
 ·cases h2 with
  |refl x=>exact⟨h3.trans x,h4⟩
end
section
variable {c d:HS} {ns nodes:List Nd} {ts T U V:List (Nat×Nat)}
theorem DZ.imp(h:∀i j,E i j→F i j):∀{xs ys:List Nat},DZ E xs ys→DZ F xs ys
 :=fun q=>by induction q with|nil=>exact .nil|cons a _ m=>exact .cons (h _ _ a) m
theorem DZ.swap(h:∀i j,E i j→E j i):∀{xs ys:List Nat},DZ E xs ys→DZ E ys xs
 :=fun q=>by induction q with|nil=>exact .nil|cons a _ m=>exact .cons (h _ _ a) m
theorem DZ.tr(h:∀i j k,E i j→E j k→E i k)(a:DZ E xs ys):DZ E ys m→DZ E xs m:=
 @DZ.rec E (fun xs ys n=>∀{m},DZ E ys m→DZ E xs m) (fun b=>by cases b;exact .nil) (fun p n ih n b=>by cases b with|cons q b=>exact .cons (h _ _ _ p q) (ih b)) xs ys a m
theorem vo:∀{xs:List Nat},(∀k∈xs,E (f k) k)→DZ E (xs.map f) xs:=by
 intro xs
 induction xs with
 |nil=>
  intro _;exact .nil
 |cons x xs m=>
  intro h;exact .cons (h x (.head _)) (m fun k n=>h k (.tail _ n))
theorem CC.snoc(h:CC nodes T i j):CC (nodes++[nd]) T i j:=fun E C=>h E ⟨C.refl,C.symm,C.trans,C.told,fun i j m n e1 e2=>C.cong i j m n (by rw[El (BX.mp e1).1];exact e1) (by rw[El (BX.mp e2).1];exact e2)⟩
theorem CC.tell{p:Nat×Nat}{i j:Nat}(h:CC nodes T i j):CC nodes (T++[p]) i j:=h.more fun q m=>.inl (Jh _ m)
theorem CC.eq(e1:nodes[i]? =some m)(e2:nodes[j]? =some n)(o:m.1=n.1)(k:DZ (CC nodes T) m.2 n.2):CC nodes T i j:=fun E C=>C.cong i j m n e1 e2 o (k.imp fun i j h=>h E C)
structure Sem(c:HS)(T U:List (Nat×Nat)):Prop where
 sound:∀i<c.nodes.length,CC c.nodes T (c.find i) i
 told:∀p∈U,c.find p.1=c.find p.2
 known:∀k m,AH c.known k=some m→∃nd,c.nodes[m]? =some nd∧k.1=nd.1∧DZ (CC c.nodes T) k.2 nd.2
 users:∀n nd,c.nodes[n]? =some nd→∀k∈nd.2,n∈c.ab (c.find k)
def LK(c:HS)(X:Nat→Prop):Prop:=∀n<c.nodes.length,n∈c.waiting∨X n∨∃m,AH c.known (c.canon n)=some m∧c.find m=c.find n
theorem Sem.tell{p:Nat×Nat}(S:Sem c T U):Sem c (T++[p]) U:=
 ⟨fun i n=>(S.sound i n).tell,S.told,fun k m h=>by refine B2 (S.known k m h) fun nd a b x=>?_;exact⟨nd,a,b,x.imp fun i j h=>h.tell⟩,S.users⟩
theorem Sem.jn(W:WF c)(S:Sem c T U)(X:Kz c k g)(h:CC c.nodes T k g)(hV:∀p∈V,c.find p.1=c.find p.2∨((c.find p.1=k∨c.find p.1=g)∧(c.find p.2=k∨c.find p.2=g))):Sem (jn c k g a b r) T V:=by
 have hl:=X.lt;refine⟨fun i hi=>?_,fun p hp=>?_,S.known,fun n nd hn j hj=>?_⟩
 ·rw[Ki W.U X];have:=S.sound i hi;split
  ·rename_i e;rw[e]at this;exact h.trans this
  ·exact this
 ·rw[Ki W.U X,Ki W.U X];rcases hV p hp with e|⟨m,e2⟩
  ·rw[e]
  ·rcases m with m|m<;>rcases e2 with e2|e2<;>rw[m,e2]<;>simp
 ·have:=S.users n nd hn j hj;rw[Ki W.U X,OH];by_cases e:c.find j=g
  ·rw[if_pos e,if_pos rfl];rw[e]at this;exact Ed _ this
  ·rw[if_neg e,if_neg e];split
   ·rename_i e';rw[e']at this;exact Jh _ this
   ·exact this
theorem RK(h:n<c.nodes.length):c.nodes[n]? =some (c.nd n):=by
 unfold HS.nd;rw[Dq h];rfl
theorem LK.jn(W:WF c)(S:Sem c T U)(X:Kz c k g)
  (h:∀n<c.nodes.length,n∈c.waiting∨Y n∨∃m,AH c.known (c.canon n)=some m∧(c.find m=c.find n∨((c.find m=k∨c.find m=g)∧(c.find n=k∨c.find n=g)))):LK (jn c k g a b r) Y:=by
 intro n hn;have hn:n<c.nodes.length:=hn;by_cases e:∃j∈(c.nd n).2,c.find j=g
 ·refine AI e fun j hj e=>?_;have:=S.users n _ (RK hn) j hj;rw[e]at this;exact .inl (Ed _ this)
 ·have ec:(Internal.jn c k g a b r).canon n=c.canon n:=by
   unfold HS.canon;show((c.nd n).1,(c.nd n).2.map _)=_;rw[Dr fun i hi=>by rw[Ki W.U X,if_neg fun q=>e ⟨i,hi,q⟩]]
  rcases h n hn with h|h|⟨m,h1,h2⟩
  ·exact .inl (Jh _ h)
  ·exact .inr (.inl h)
  ·refine .inr (.inr ⟨m,by rw[ec];exact h1,?_⟩);rw[Ki W.U X,Ki W.U X];rcases h2 with e|⟨e1,e2⟩
   ·rw[e]
   ·rcases e1 with e1|e1<;>rcases e2 with e2|e2<;>rw[e1,e2]<;>simp
structure Inv(c:HS)(ns:List Nd)(ts:List (Nat×Nat)):Prop where
 wf:WF c
 nds:c.nodes=ns
 kw:c.known.length+c.waiting.length≤c.nodes.length+28*c.merged.length
 eb:c.edges.length≤c.merged.length+ts.length
 wl:∀n∈c.waiting,n<c.nodes.length
 tin:∀p∈ts,p.1<c.nodes.length∧p.2<c.nodes.length
 S:Sem c ts ts
 comp:LK c fun zz=>False
theorem Inv.sane(I:Inv c ns ts)(z:ts.length≤40):Dw c:=I.wf.sane I.kw (by have:=I.eb;have:=I.wf.merged;have:=I.wf.n14;exact Cb sT z (by assumption) (by assumption) this)
theorem Inv.same(I:Inv c ns ts)(x:Cx d c)(h:d.waiting=c.waiting):Inv d ns ts:=by
 have a0:=x.ab;have W:=I.wf.same x;have key:∀m b a,WF (Kq c c.waiting m b a)→(∀i,(Kq c c.waiting m b a).ab i=c.ab i)→Inv (Kq c c.waiting m b a) ns ts:=fun m b a W a0=>
  ⟨W,I.nds,I.kw,I.eb,I.wl,I.tin,⟨I.S.sound,I.S.told,I.S.known,fun n nd hn k hk=>by rw[a0];exact I.S.users n nd hn k hk⟩,I.comp⟩
 have e:d=Kq c c.waiting d.marks d.backs d.abo:=by rw[←h];exact x.eq
 exact(congrArg (Inv · ns ts) e).mpr (key _ _ _ ((congrArg WF e).mp W) fun i=>(congrArg (fun z:HS=>z.ab i) e).symm.trans (a0 i))
theorem Inv.cc(I:Inv c ns ts)(h:c.waiting=[])(hi:i<ns.length)(hj:j<ns.length):c.find i=c.find j↔CC ns ts i j:=by
 have en:=I.nds;subst en;constructor
 ·intro e;have a:=I.S.sound i hi;have b:=I.S.sound j hj;rw[e]at a;exact a.symm.trans b
 ·intro q;refine q (fun i j=>c.find i=c.find j) ⟨fun zz=>rfl,fun zz zz e=>e.symm,fun zz zz zz a b=>a.trans b,I.S.told,fun i j m n e1 e2 o k=>?_⟩;have hc:∀i m,c.nodes[i]? =some m→∃y,AH c.known (m.1,m.2.map c.find)=some y∧c.find y=c.find i:=fun i m e=>by
   have:=I.comp i (BX.mp e).1;rw[h]at this;rcases this with f|f|⟨y,f1,f2⟩
   ·cases f
   ·exact f.elim
   ·refine⟨y,?_,f2⟩;rw[show c.canon i=(m.1,m.2.map c.find) by unfold HS.canon HS.nd;rw[e];rfl]at f1;exact f1
  refine AI (hc i m e1) fun y y1 y2=>?_;refine AI (hc j n e2) fun z z1 z2=>?_;rw[o,cj k,z1]at y1;obtain rfl:=An y1;exact y2.symm.trans z2
def To(c c':HS):Prop:=c'.marks=c.marks∧∃m,Do c m c'
theorem To.refl(n:(c.abo.map (·.1)).Nodup):To c c:=⟨rfl,0,.refl (.refl n)⟩
theorem To.trans(x:To c c1)(y:To c1 c2):To c c2:=by
 refine Fw x fun a m s=>?_;refine Fw y fun b n t=>?_;exact⟨b.trans a,m+n,s.trans t⟩
theorem To.one(n:(c.abo.map (·.1)).Nodup)(u:J3 m c)(h:m.marks=c.marks):To c m:=⟨h,1,.step (.refl (.refl n)) u⟩
theorem Inv.tell{a b:Nat}{r:AV}(I:Inv c ns ts)(ha:a<c.nodes.length)(hb:b<c.nodes.length)(hr:G6 (.tup [.int a,.int b,r]))(z:ts.length≤40):Inv (c.join a b r) ns (ts++[(a,b)])∧To c (c.join a b r):=by
 have W:=I.wf;have hm:=W.merged;have hn:=W.n14;have he:=I.eb;have a2:=I.kw;have a0:∀p∈ts++[(a,b)],p.1<c.nodes.length∧p.2<c.nodes.length:=fun p hp=>by
  rcases B9.mp hp with h|h
  ·exact I.tin p h
  ·rw[Aq.mp h];exact⟨ha,hb⟩
 by_cases h:c.find a=c.find b
 ·rw[xQ h];refine⟨⟨W.lj1 hr,I.nds,I.kw,?_,I.wl,a0,?_,I.comp⟩,.one W.ndA (kK W.ndA (!Cb aY z hm hn he)) rfl⟩
  ·show(c.edges++_).length≤c.merged.length+(ts++_).length;rw[BJ,BJ,C5,C5];exact BS wW he
  ·have S:=I.S.tell (p:=(a,b));refine⟨S.sound,fun p hp=>?_,S.known,S.users⟩;rcases B9.mp hp with q|q
   ·exact S.told p q
   ·rw[Aq.mp q];exact h
 ·rw[Zx h];have X:=W.two ha hb h;have S:=I.S.tell (p:=(a,b));have kg:(min (c.find a) (c.find b)=c.find a∧max (c.find a) (c.find b)=c.find b)∨(min (c.find a) (c.find b)=c.find b∧max (c.find a) (c.find b)=c.find a):=by exact Zv
  have a1:CC c.nodes (ts++[(a,b)]) (c.find a) (c.find b):=(S.sound a ha).trans (CC.trans (fun E C=>C.told (a,b) (by simp)) (S.sound b hb).symm);generalize min (c.find a) (c.find b)=k at*;generalize max (c.find a) (c.find b)=g at*;refine⟨⟨W.jn1 X hr,I.nds,?_,?_,fun n h=>?_,a0,S.jn W X ?_ fun p hp=>?_,LK.jn W S X fun n hn=>?_⟩,.one W.ndA (YV W X (!Cb aY z hm hn he)) rfl⟩
  ·show c.known.length+(c.waiting++c.ab g).length≤c.nodes.length+28*(c.merged++_).length;have:=W.ab_le g;rw[BJ,BJ,C5];exact Hq vD a2 this
  ·show(c.edges++_).length≤(c.merged++_).length+(ts++_).length;simp only[BJ,C5];exact BS rV he
  ·rcases B9.mp h with h|h
   ·exact I.wl n h
   ·exact W.abl _ n h
  ·rcases kg with⟨e1,e2⟩|⟨e1,e2⟩<;>rw[e1,e2]
   ·exact a1
   ·exact a1.symm
  ·rcases B9.mp hp with q|q
   ·exact .inl (S.told p q)
   ·rw[Aq.mp q];refine .inr ?_;rcases kg with⟨e1,e2⟩|⟨e1,e2⟩<;>rw[e1,e2]<;>simp
  ·rcases I.comp n hn with h|h|⟨m,h1,h2⟩
   ·exact .inl h
   ·exact h.elim
   ·exact .inr (.inr ⟨m,h1,.inl h2⟩)
variable {nd:Nd} {w x:Int}
theorem j8(h:AH c.known (c.canon n)=some m)(ne:n≠c.made):c.lookAt n=if c.find m=c.find n then c else c.join m n HS.likeR:=by
 have e:c.note n=c:=by simp only[HS.note,if_neg ne,h,QP,if_true]
 show(c.note n).look n=_;rw[e];simp only[HS.look,h,QP,if_true,jH];by_cases q:c.find m=c.find n
 ·rw[if_neg (fun f=>f q),if_pos q]
 ·rw[if_pos q,if_neg q]
theorem li(h:AH c.known (c.canon n)=none)(m:n≠c.made):c.lookAt n=kn c n:=by
 have e:c.note n={c with changes:=c.changes++[.known (c.canon n)]}:=by simp only[HS.note,if_neg m,h,YK,HN,if_false]
 show(c.note n).look n=_;rw[e];have h':AH ({c with changes:=c.changes++[.known (c.canon n)]}:HS).known (({c with changes:=c.changes++[.known (c.canon n)]}:HS).canon n)=none:=h;generalize hd:({c with changes:=c.changes++[.known (c.canon n)]}:HS)=d at*;simp only[HS.look,h',YK,HN,if_false,Option.getD_none];rw[if_neg (fun f=>f rfl)];subst hd;rfl
theorem km(h:c.made=c.nodes.length):(FS c nd w x).lookAt c.nodes.length=(CI c nd w x).lookAt c.nodes.length:=by
 have e:(FS c nd w x).note c.nodes.length=(CI c nd w x).note c.nodes.length:=by
  unfold HS.note;rw[if_pos (show c.nodes.length=(FS c nd w x).made from h.symm),if_neg (show ¬c.nodes.length=(CI c nd w x).made from Bm (Nk _))];rfl
 show HS.look _ _=HS.look _ _;rw[e]
def mu(c:HS):Nat:=29*(c.nodes.length-c.merged.length)+c.waiting.length
theorem pJ(a b:Nat):G6 (.tup [.int a,.int b,HS.likeR]):=⟨a,b,["like"],rfl,fun r m=>by rw[Aq.mp m];decide+kernel⟩
theorem Z1{n:Nat}(W:WF c)(kw:c.known.length+c.waiting.length+1≤c.nodes.length+28*c.merged.length)(eb:c.edges.length≤c.merged.length+ts.length)(wl:∀n∈c.waiting,n<c.nodes.length)
  (a1:∀p∈ts,p.1<c.nodes.length∧p.2<c.nodes.length)(S:Sem c ts ts)(C:LK c (· =n))(hn:n<c.nodes.length)(z:ts.length≤40):Inv (c.lookAt n) c.nodes ts∧To c (c.lookAt n)∧mu (c.lookAt n)≤mu c:=by
 have ne:n≠c.made:=by rw[W.made];exact Bm hn
 have a6:=W.merged;have a4:=W.n14;have a7:=(W.kid n _ (RK hn)).2;have a2:DZ (CC c.nodes ts) ((c.nd n).2.map c.find) (c.nd n).2:=vo fun k hk=>S.sound k (by have:=a7 k hk;exact AK this (Ct hn));cases q:AH c.known (c.canon n)with
 |none=>
  rw[li q ne];refine⟨⟨W.kn1 hn,rfl,?_,eb,wl,a1,⟨S.sound,S.told,fun k m h=>?_,S.users⟩,fun i hi=>?_⟩,.one W.ndA (qc W.ndA q (!Cb nr kw a6 a4)) rfl,A9 _⟩
  ·show(c.known++_).length+c.waiting.length≤c.nodes.length+28*c.merged.length;rw[BJ,C5];exact Cb yb kw
  ·change AH (c.known++_) k=_ at h;rw[Hc]at h;cases hk:AH c.known k with
   |some y=>rw[hk]at h;cases h;exact S.known k _ hk
   |none=>
    rw[hk]at h;split at h
    ·rename_i e;obtain rfl:=An h;subst e;exact⟨c.nd n,RK hn,rfl,a2⟩
    ·exact Au h
  ·rcases C i hi with h|rfl|⟨m,h1,h2⟩
   ·exact .inl h
   ·refine .inr (.inr ⟨i,?_,rfl⟩);show AH (c.known++[(c.canon i,i)]) (c.canon i)=_;rw[Hc,q,if_pos rfl];rfl
   ·refine .inr (.inr ⟨m,?_,h2⟩);show AH (c.known++[(c.canon n,n)]) (c.canon i)=_;rw[Hc,h1];rfl
 |some m=>
  rw[j8 q ne];have hm:=W.kn _ _ q;by_cases e:c.find m=c.find n
  ·rw[if_pos e];refine⟨⟨W,rfl,!Ct kw,eb,wl,a1,S,fun i hi=>?_⟩,.refl W.ndA,A9 _⟩;rcases C i hi with h|rfl|h
   ·exact .inl h
   ·exact .inr (.inr ⟨m,q,e⟩)
   ·exact .inr (.inr h)
  ·rw[if_neg e,Zx e];refine B2 (S.known _ _ q) fun nd e1 e2 e3=>?_;have e3:DZ (CC c.nodes ts) ((c.nd n).2.map c.find) nd.2:=e3;have a8:CC c.nodes ts m n:=CC.eq e1 (RK hn) e2.symm ((e3.swap fun _ _ h=>h.symm).tr (fun _ _ _ h h'=>h.trans h') a2);have X:=W.two hm hn e;have kg:(min (c.find m) (c.find n)=c.find m∧max (c.find m) (c.find n)=c.find n)∨(min (c.find m) (c.find n)=c.find n∧max (c.find m) (c.find n)=c.find m):=by exact Zv
   have a5:CC c.nodes ts (c.find m) (c.find n):=(S.sound m hm).trans (a8.trans (S.sound n hn).symm);generalize min (c.find m) (c.find n)=k at*;generalize max (c.find m) (c.find n)=g at*;have WJ:=W.jn1 (a:=m) (b:=n) X (pJ m n);have a0:=W.ab_le g;have a3:c.merged.length+1≤c.nodes.length:=by
    have:=WJ.merged;change(c.merged++_).length≤c.nodes.length at this;rw[BJ]at this;exact this
   refine⟨⟨WJ,rfl,?_,?_,fun i h=>?_,a1,S.jn W X ?_ fun p hp=>.inl (S.told p hp),LK.jn W S X fun i hi=>?_⟩,.one W.ndA (YV W X (!Cb yG eb z a4 a3)) rfl,?_⟩
   ·show c.known.length+(c.waiting++c.ab g).length≤c.nodes.length+28*(c.merged++_).length;rw[BJ,BJ,C5];exact Hq xX kw a0
   ·show(c.edges++_).length≤(c.merged++_).length+ts.length;simp only[BJ,C5];exact BS jR eb
   ·rcases B9.mp h with h|h
    ·exact wl i h
    ·exact W.abl _ i h
   ·rcases kg with⟨e1,e2⟩|⟨e1,e2⟩<;>rw[e1,e2]
    ·exact a5
    ·exact a5.symm
   ·rcases C i hi with h|rfl|⟨y,h1,h2⟩
    ·exact .inl h
    ·refine .inr (.inr ⟨m,q,.inr ?_⟩);rcases kg with⟨e1,e2⟩|⟨e1,e2⟩<;>rw[e1,e2]<;>simp
    ·exact .inr (.inr ⟨y,h1,.inl h2⟩)
   ·show 29*(c.nodes.length-(c.merged++_).length)+(c.waiting++c.ab g).length≤29*(c.nodes.length-c.merged.length)+c.waiting.length;rw[BJ,BJ,C5];exact Zao a0 a3
theorem eQ(n:(c.abo.map (·.1)).Nodup)(m:List Nat):Cx (EU c m) c:=⟨rfl,fun zz=>rfl,n,n⟩
theorem gV{c0:HS}(z:ts.length≤40):PY (fun c=>Inv c ns ts∧To c0 c) mu:=by
 refine⟨fun c I=>I.1.sane z,fun c m n a1 hw=>AL a1 fun I t=>?_⟩;have W:=I.wf;have x:=eQ W.ndA m;have hn:n<c.nodes.length:=I.wl n (by rw[hw];simp);have a0:=I.kw;rw[hw,BJ,C5]at a0;refine BN (Z1 (c:=EU c m) (n:=n) (ts:=ts) (W.same x) (by show c.known.length+m.length+1≤c.nodes.length+28*c.merged.length;exact Cb zQ a0) I.eb (fun i hi=>I.wl i (by rw[hw];exact Jh _ hi)) I.tin ⟨I.S.sound,I.S.told,I.S.known,I.S.users⟩ (fun i hi=>by
  rcases I.comp i hi with h|h|h
  ·rw[hw]at h;rcases B9.mp h with h|h
   ·exact .inl h
   ·exact .inr (.inl (Aq.mp h))
  ·exact h.elim
  ·exact .inr (.inr h)) hn z) fun h1 h2 h3=>?_
 have en:=I.nds;refine⟨hn,⟨en▸h1,t.trans (To.trans (show To c (EU c m)from⟨rfl,0,.refl x⟩) h2)⟩,?_⟩;have:mu (EU c m)+1=mu c:=by
  show 29*(c.nodes.length-c.merged.length)+m.length+1=29*(c.nodes.length-c.merged.length)+c.waiting.length;rw[hw,BJ,C5];exact wK
 exact AK (CD h3) (Ac this)
theorem Inv.add(I:Inv c ns ts)(Q:KF c nd)(z:ts.length≤40):Inv ((FS c nd w x).lookAt c.nodes.length) (ns++[nd]) ts∧To c ((FS c nd w x).lookAt c.nodes.length):=by
 have W:=I.wf;rw[km W.made];have WM:=W.mk1 (w:=w) (x:=x) Q;have hN:(CI c nd w x).nodes.length=c.nodes.length+1:=by show(c.nodes++[nd]).length=_;simp
 have a0:=I.kw;have S:=I.S;have hq:∀i<c.nodes.length,(CI c nd w x).nd i=c.nd i:=fun i hi=>by
  unfold HS.nd;show((c.nodes++[nd])[i]?).getD _=_;rw[El hi]
 have hS:Sem (CI c nd w x) ts ts:=by
  refine⟨fun i hi=>?_,fun p hp=>?_,fun k m h=>?_,fun n m hn k hk=>?_⟩
  ·rw[KD W];by_cases e:i=c.nodes.length
   ·subst e;have:c.find c.nodes.length=c.nodes.length:=Pb (by rw[W.uab];exact A9 _);rw[this];exact .refl _
   ·exact(S.sound i (!BS Yl hN hi e)).snoc
  ·rw[KD W,KD W];exact S.told p hp
  ·refine B2 (S.known k m h) fun a1 a b y=>?_;exact⟨a1,by show(c.nodes++[nd])[m]? =_;rw[El (BX.mp a).1];exact a,b,y.imp fun i j h=>h.snoc⟩
  ·rw[KD W,RC W Q];rcases R6 hn with h|⟨rfl,rfl⟩
   ·have:=S.users n m h.2 k hk;split
    ·exact Jh _ this
    ·exact this
   ·rw[if_pos (M5.mpr (Zef hk))];simp
 have hC:LK (CI c nd w x) (· =c.nodes.length):=fun i hi=>by
  by_cases e:i=c.nodes.length
  ·exact .inr (.inl e)
  ·have hi:i<c.nodes.length:=by exact BS Yl hN hi e
   rcases I.comp i hi with h|h|⟨m,h1,h2⟩
   ·exact .inl h
   ·exact h.elim
   ·refine .inr (.inr ⟨m,?_,by rw[KD W,KD W];exact h2⟩);show AH c.known ((CI c nd w x).canon i)=_;have:(CI c nd w x).canon i=c.canon i:=by
     unfold HS.canon;rw[hq i hi,Dr fun j zz=>(KD W j:(CI c nd w x).find j=_)]
    rw[this];exact h1
 refine BN (Z1 (c:=CI c nd w x) (n:=c.nodes.length) (ts:=ts) WM (by rw[hN];show c.known.length+c.waiting.length+1≤c.nodes.length+1+28*c.merged.length;exact Cb tX a0) I.eb (fun i hi=>by rw[hN];have:=I.wl i hi;exact Am lY this) (fun p hp=>by rw[hN];have:=I.tin p hp;exact BS uM this) hS hC (by rw[hN];exact A5 vJ) z) fun h1 h2 zz=>?_;have en:=I.nds;refine⟨?_,(To.one W.ndA (nP W Q) rfl).trans h2⟩;rw[←en];exact h1
theorem Inv.zero:Inv hs0 [] []:=by
 have no:∀{i:Nat}{α:Type}{l:α},([]:List α)[i]? =some l→False:=fun h=>by simp at h
 refine⟨⟨by decide,rfl,rfl,rfl,rfl,rfl,.nil,by simp,fun n nd h=>(no h).elim,⟨fun i x h=>(no h).elim,by decide⟩,.nil,fun k=>⟨fun h=>absurd rfl h,fun h=>(no h).elim⟩,A9 _,fun i n h=>(nomatch h),fun k n h=>(nomatch h),rfl,rfl,rfl,A9 _,fun i l h=>(no h).elim,by simp,rfl⟩,rfl,by decide,by decide,by exact⋯,by exact⋯,⟨fun i hi=>absurd hi (Li _),by exact⋯,fun k m h=>(nomatch h),fun n nd h=>(no h).elim⟩,fun i hi=>absurd hi (Li _)⟩
end
section
variable {c d:HS} {ns nodes:List Nd} {ts T U V:List (Nat×Nat)} {nd:Nd} {lv:List DF} {k:Nat}
inductive Fp:List DF→HS→Prop
 |nil {c:HS}:c.marks=[]→Fp [] c
 |snoc {lv:List DF} {ns:List Nd} {ts:List (Nat×Nat)} {c0 c:HS} {m:Nat}:Inv c0 ns ts→Fp lv c0→c.marks=c0.marks++[(c0.changes.length,c0.waiting)]→Do c0 m c→Fp (lv++[(ns,ts)]) c
theorem Fp.to(r:Fp lv c)(t:To c d):Fp lv d:=by
 refine Fw t fun a n s=>?_;cases r with
 |nil h=>exact .nil (a.trans h)
 |snoc I r h m=>exact .snoc I r (a.trans h) (m.trans s)
theorem Fp.len(r:Fp lv c):c.marks.length=lv.length:=by
 induction r with
 |nil h=>rw[h];rfl
 |snoc I r h s m=>rw[h,BJ,BJ,m];rfl
theorem Fp.ops(r:Fp lv c):∀e∈lv,∀nd∈e.1,Cs nd.1:=by
 induction r with
 |nil h=>intro e m;cases m
 |snoc I r h s ih=>
  intro e m;rcases B9.mp m with m|m
  ·exact ih e m
  ·rw[Aq.mp m];intro nd n;exact I.wf.ops nd (by rw[I.nds];exact n)
theorem Fp.last(r:Fp lv c):∀(l:List DF)(e:DF),lv=l++[e]→∃c0 m,Inv c0 e.1 e.2∧Fp l c0∧c.marks=c0.marks++[(c0.changes.length,c0.waiting)]∧Do c0 m c:=by
 intro l e q;cases r with
 |nil h=>simp at q
 |@snoc lv ns ts c0 _ m I r h s=>
  refine AL (List.append_inj' q rfl) fun q1 n=>?_;subst q1;obtain⟨rfl,_⟩:=iN n;exact⟨c0,m,I,r,h,s⟩
theorem Inv.ch(I:Inv c ns ts)(z:ts.length≤40):c.changes.length≤800:=(I.sane z).z2
structure Fs(c:HS)(ns:List Nd)(ts:List (Nat×Nat))(lv:List DF)(k:Nat):Prop where
 I:Inv c ns ts
 r:Fp lv c
 zn:ns.length+k≤14
 zt:ts.length+k≤14
 zl:lv.length+k≤14
 ze:∀e∈lv,e.1.length+k≤14∧e.2.length+k≤14
theorem Fs.less(h:k'≤k)(Z:Fs c ns ts lv k):Fs c ns ts lv k':=
 ⟨Z.I,Z.r,by have:=Z.zn;exact BS Wc h this,by have:=Z.zt;exact BS Wc h this,by have:=Z.zl;exact BS Wc h this,fun e m=>by have:=Z.ze e m;exact Cb uG h this⟩
theorem Fs.to(Z:Fs c ns ts lv k)(I:Inv d ns ts)(t:To c d):Fs d ns ts lv k:=⟨I,Z.r.to t,Z.zn,Z.zt,Z.zl,Z.ze⟩
theorem gc{c0:HS}{m:Nat}(z:c.changes.length≤1000)(h:c.marks=c0.marks++[(c0.changes.length,c0.waiting)])(s:Do c0 m c)(hm:c.marks.length≤1000)(n0:(c.abo.map (·.1)).Nodup):
  ∃many J ms n m,OY many J∧c.marks=ms++[(many,n)]∧c.marks.length≤1000∧J m {c with marks:=ms,backs:=c.backs+1}∧∀c',J 0 c'→Cx (EU c' n) c0∧(EU c' n).waiting=c0.waiting∧(EU c' n).marks=c0.marks:=by
 refine B2 (s.pop z (ms:=c0.marks)) fun J h1 h2 h3=>?_;refine⟨_,J,c0.marks,c0.waiting,m,h1,h,hm,h2 _ ⟨rfl,fun zz=>rfl,n0,n0⟩ rfl,fun c' hc=>?_⟩;refine AL (h3 c' hc) fun x e=>?_;exact⟨(eQ x.ndc _).trans x,rfl,e⟩
theorem uS(x:Cx d c)(h:d.waiting=c.waiting)(m:d.marks=c.marks):JZ d=JZ c:=by
 revert h m;refine x.elim (P:=fun d=>d.waiting=c.waiting→d.marks=c.marks→JZ d=JZ c) fun ab n ms bs ha zz h m=>?_;change n=c.waiting at h;change ms=c.marks at m;subst h m;have e:(fun a=>HU (Internal.ss (HS.ab {c with waiting:=c.waiting,marks:=c.marks,backs:=bs,abo:=ab} a)))=fun a=>HU (Internal.ss (c.ab a)):=funext fun a=>by
  unfold HS.ab;show HU (Internal.ss ((AH ab a).getD []))=_;rw[ha]
 unfold JZ;rw[e];rfl
theorem Inv.told(I:Inv c ns ts):∀(m:List (Nat×Nat)),(∀p∈m,p.1<c.nodes.length∧p.2<c.nodes.length)→ts.length+m.length≤40→Inv (Internal.told c m Fu) ns (ts++m)∧To c (Internal.told c m Fu):=by
 intro m
 induction h:m.length generalizing m with
 |zero=>
  intro _ _;rw[jE.mp h,TX];exact⟨I,.refl I.wf.ndA⟩
 |succ n ih=>
  obtain⟨as,a,rfl⟩:∃as a,m=as++[a]:=by
   rcases Tq m with rfl|⟨x,y,e⟩
   ·cases h
   ·exact⟨x,y,by rw[e,Ts]⟩
  intro hp z;rw[BJ,C5]at h;refine AL (ih as (!Am j7 h) (fun p q=>hp p (Jh _ q)) (!Am mM z)) fun I1 t1=>?_;rw[d7];have en:(Internal.told c as Fu).nodes.length=c.nodes.length:=by rw[I1.nds,I.nds]
  refine AL (I1.tell (a:=a.1) (b:=a.2) (r:=Fu) (by rw[en];exact(hp a (by simp)).1) (by rw[en];exact(hp a (by simp)).2) ⟨a.1,a.2,["told","trial"],rfl,fun r hr=>by
   rcases A7.mp hr with rfl|hr
   ·decide+kernel
   ·rw[Aq.mp hr];decide+kernel⟩ (by rw[BJ];exact BS lL h z)) fun I2 t2=>?_
  refine⟨?_,t1.trans t2⟩;rw[←YD];exact I2
theorem ba(n:(c.abo.map (·.1)).Nodup):Cx (Eu c) c:=⟨rfl,fun m=>rfl,n,n⟩
theorem Fs.asks(Z:Fs c ns ts lv k)(a9:0<ns.length):∃Bv ph,FU Bv ns ts ph∧Bv c∧∀c',Bv c'→Fs c' ns ts lv k:=by
 have zt:=Z.zt;have zl:=Z.zl;have zn:=Z.zn;have ml:=Z.r.len;have n:∀d,Cx d c∧d.waiting=c.waiting∧d.marks=c.marks→Inv d ns ts:=fun d a6=>BN a6 fun x h zz=>Z.I.same x h;refine⟨fun d=>Cx d c∧d.waiting=c.waiting∧d.marks=c.marks,JZ c,⟨fun d g=>(n d g).nds,fun d g=>uS g.1 g.2.1 g.2.2,fun d g=>(n d g).sane (!Am R0 zt),fun d g=>(n d g).wf.pl,fun d g=>?_,!Am w8 zn,a9,?_,?_,!Am mJ zt,fun d g x hx=>?_,fun d g ps a8 zp=>?_⟩,⟨.refl Z.I.wf.ndA,rfl,rfl⟩,fun d g=>Z.to (n d g) ⟨g.2.2,0,.refl g.1⟩⟩
 ·rw[g.2.2,ml];exact Am aM zl
 ·have:=Z.I.wf.dup;rw[Z.I.nds]at this;exact this
 ·have:=Z.I.tin;rw[Z.I.nds]at this;exact this
 ·have I:=n d g;have:=I.S.sound x (by rw[I.nds];exact hx);rw[I.nds]at this;exact this
 ·have I:=n d g;have W:=I.wf;have en:=I.nds;have S:=I.sane (!Am R0 zt);have hu:=W.uab;have b0:=W.n14;have x:=ba W.ndA;have IP:Inv (Eu d) ns ts:=I.same x rfl;have a0:∀p∈ps,p.1<d.nodes.length∧p.2<d.nodes.length:=by rw[en];exact a8
  refine AL (IP.told ps a0 (!BS o9 zt zp)) fun IT tT=>?_;refine⟨fun c'=>(Inv c' ns (ts++ps)∧To (Eu d) c')∧c'.waiting=[],⟨hu,AK S.z2 (!ld rfl),AK S.z5 (!ld rfl),by rw[g.2.2,ml];exact Am aM zl,!ln b0 rfl,!ln zp rfl,fun p hp=>by rw[hu];exact a0 p hp,fun j hj=>?_,⟨_,mu,gV (by rw[BJ];exact BS o9 zt zp),⟨IT,tT⟩,fun c' h w=>⟨h,w⟩⟩,fun c' a7=>AL a7 fun a3 w=>BN a3 fun I' m' a2=>AX a2 fun j s=>?_⟩,fun c' a1=>AL a1 fun a4 w=>AL a4 fun I' zz=>⟨I'.wf.U,by rw[I'.wf.uab,I'.nds,hu,en],fun i j hi hj=>I'.cc w hi hj⟩⟩
  ·have a5:(ps.take j).length≤8:=by rw[Nv];exact lG zp
   refine AL (IP.told (ps.take j) (fun p hp=>a0 p (Zee hp)) (!BS o9 zt a5)) fun I2 zz=>?_;exact I2.sane (by rw[BJ];exact BS o9 zt a5)
  ·have s':=s.base x;have h1:c'.marks=d.marks++[(d.changes.length,d.waiting)]:=m';refine J6 (gc (c:=c') (c0:=d) (AK (I'.ch (by rw[BJ];exact BS o9 zt zp)) (!CX Zs)) h1 s' (by rw[h1,BJ,g.2.2,ml];simp;exact Am Zac zl) I'.wf.ndA) fun many J ms ws m k1 k2 k3 k4 k5=>?_;refine⟨many,J,ms,ws,m,k1,k2,k3,k4,fun b1 hc=>?_⟩;refine BN (k5 b1 hc) fun y1 y2 y3=>?_;exact⟨y1.trans g.1,y2.trans g.2.1,y3.trans g.2.2⟩
theorem Fs.addOk(Z:Fs c ns ts lv (k+1)):OE c:=by
 have W:=Z.I.wf;have zt:=Z.zt;have zn:=Z.zn;have en:=Z.I.nds;have S:=Z.I.sane (!Am Ou zt);refine⟨S,fun i h=>?_,fun nd i=>?_,W.ops,by have:=W.n14;exact ln this rfl,fun nd w x o h2 hk hn=>?_⟩
 ·rw[W.uab];exact W.root_lt ((W.abo i).mp h)
 ·rw[W.nums];constructor
  ·intro h;have:=LH h;rw[Zeg]at this;exact this
  ·intro h;refine Wm ?_ ?_
   ·rw[List.zipIdx_map_fst];exact W.dup
   ·rw[Zeg];exact h
 ·have Q:KF c nd:=⟨o,h2,hk,hn,by rw[en];exact Am ff zn⟩;have a0:=Z.I.kw;have SM:Dw (CI c nd w x):=(W.mk1 Q).sane (by
   have hN:(CI c nd w x).nodes.length=c.nodes.length+1:=by show(c.nodes++[nd]).length=_;simp
   rw[hN];show c.known.length+c.waiting.length≤c.nodes.length+1+28*c.merged.length;exact Cb pw a0) (by
   have:=Z.I.eb;have:=W.merged;have:=W.n14;show c.edges.length≤100;exact Hq rL zt (by assumption) (by assumption) this)
  exact⟨SM.U,⟨SM.O.len,SM.O.sz,SM.O.m⟩,⟨SM.B.n,SM.B.w,SM.B.d,SM.B.m⟩,SM.nl,SM.kids,SM.abo,SM.kn,SM.z1,S.z2,SM.z3,SM.z4,SM.z5,SM.z6⟩
theorem oE:Fz Fs where
 init:=⟨.zero,.nil rfl,by decide,by decide,by decide,fun e he=>(nomatch he)⟩
 nds:=fun Z=>⟨Z.I.nds,by have:=Z.I.wf.ops;rw[Z.I.nds]at this;exact this,Z.r.ops,by have:=Z.zl;exact Am uK this,Z.r.len⟩
 add:=fun{c ns ts lv k} Z=>⟨Z.addOk,fun nd c' o h2 hk h=>by
  have en:=Z.I.nds;have zn:=Z.zn;have n:=Z.zt;rcases h with⟨h,rfl⟩|⟨h,w,x,rfl⟩
  ·rw[en]at h;show Fs _ (if _ then _ else _) _ _ _;rw[if_pos h];exact Z.less (!Gv _)
  ·have Q:KF c nd:=⟨o,h2,by rw[en];exact hk,h,by rw[en];exact Am ff zn⟩;refine AL (Z.I.add (w:=w) (x:=x) Q (!Am Ou n)) fun I t=>?_;rw[en]at h;show Fs _ (if _ then _ else _) _ _ _;rw[if_neg h];exact⟨I,Z.r.to t,by rw[BJ,C5];exact Am Ue zn,!Am o5 n,by have:=Z.zl;exact Am o5 this,fun e he=>by have:=Z.ze e he;exact BS VZ this⟩⟩
 settle:=fun{c ns ts lv k} Z=>by
  have n:=Z.zt;exact⟨_,mu,gV (c0:=c) (!Am R0 n),⟨Z.I,.refl Z.I.wf.ndA⟩,fun c' h zz=>Z.to h.1 h.2⟩
 push:=fun{c ns ts lv k} Z=>by
  have n:=Z.zt;have zn:=Z.zn;have S:=Z.I.sane (!Am Ou n);have x:=ba Z.I.wf.ndA;refine⟨AK S.z2 (!ld rfl),AK S.z5 (!ld rfl),Z.I.same x rfl,.snoc Z.I Z.r rfl (.refl x),!Am o5 zn,!Am o5 n,by rw[BJ,C5];have:=Z.zl;exact Am Ue this,fun e he=>?_⟩;rcases B9.mp he with h|h
  ·have:=Z.ze e h;exact BS VZ this
  ·rw[Aq.mp h];exact⟨by show ns.length+k≤14;exact Am o5 zn,by show ts.length+k≤14;exact Am o5 n⟩
 pop:=fun{c ns ts lv e k} Z=>by
  have n:=Z.zt;have zl:=Z.zl;have S:=Z.I.sane (!Am R0 n);refine Bx (Z.r.last lv e rfl) fun c0 m a1=>Bs a1 fun I0 r0 hm s=>?_;refine J6 (gc (AK S.z2 (!CX Zs)) hm s (by rw[Z.r.len];exact Am w5 zl) Z.I.wf.ndA) fun many J ms ws m k1 k2 k3 k4 k5=>?_;refine⟨many,J,ms,ws,m,k1,k2,k3,k4,fun c' hc=>?_⟩;refine BN (k5 c' hc) fun y1 y2 y3=>?_;have ze:=Z.ze e (by simp);rw[BJ,C5]at zl;exact⟨I0.same y1 y2,r0.to ⟨y3,0,.refl y1⟩,ze.1,ze.2,!Am nR zl,fun f hf=>Z.ze f (Jh _ hf)⟩
 tell:=fun{c ns ts lv k a b} Z ha hb=>by
  have n:=Z.zt;have zn:=Z.zn;have en:=Z.I.nds;refine AL (Z.I.tell (a:=a) (b:=b) (r:=fH) (by rw[en];exact ha) (by rw[en];exact hb) ⟨a,b,["told","t"],rfl,fun r hr=>by
   rcases A7.mp hr with rfl|hr
   ·decide+kernel
   ·rw[Aq.mp hr];decide+kernel⟩ (!Am Ou n)) fun I t=>?_
  exact⟨Z.I.sane (!Am Ou n),I,Z.r.to t,!Am o5 zn,by rw[BJ,C5];exact Am Ue n,by have:=Z.zl;exact Am o5 this,fun e he=>by have:=Z.ze e he;exact BS VZ this⟩
 asks:=fun Z a0=>Z.asks a0
 less:=fun Z=>Z.less (!Gv _)
 fin:=fun Z w a0=>⟨Z.I.wf.U,by rw[Z.I.wf.uab,Z.I.nds],fun i j hi hj=>Z.I.cc w hi hj⟩
end
theorem kX(w:AD):Cj (KK w) Bh "law"=some (some (.ref 567)):=∅
theorem nG:Ah callerA 16:=⟨by decide+kernel,by decide+kernel,rfl⟩
theorem ou(ds:List WData):PySem.Challenge.rw_pq0016_01.row.claim.post ds (.bool true) ds=true:=by
 show(jJ [] (.bool true) .bool&&WTm.holds [] (.eq .res (.lit (.bool true))) {args:=ds,res:=some (.bool true),after:=ds})=true;have h1:jJ [] (.bool true) .bool=true:=by first|rfl|simp[jJ,WShape.arms]
 have h2:same (.bool true) (.bool true)=true:=by first|rfl|simp[same]
 rw[h1];unfold WTm.holds;simp[WTm.value,h2]
theorem nw:OP (w,hb):=fun s₀ s₁ mg mb p loose fa a vs is m T KX a1 hg hL hI hz=>by
 have m:s₁.heap=hb:=m;have B:Ai:=⟨m▸KX,_,_,_,_,m▸T⟩;have e:some (Fi fa)=some (.ref 567):=a1.symm.trans (mg_of (m▸B.K) T.g (kX w));obtain rfl:=TQ (An e);refine AT (ot B nG rfl oE (σ:=fun n=>none) ⟨⟨vs,m▸hL,hI⟩,!ln hz rfl⟩ (Φ:=fun v n=>v=.bool true) (fun n=>rfl) s₁ [.ref a] ⟨fun b o q=>by rw[m];exact q,fun a x e=>(nomatch e)⟩ (.cons (.ref a) .nil)) (fun v s' a0=>BG a0 fun av σ' r g t e=>?_) fun n n e=>e.elim;subst e;obtain rfl:=Po r;exact⟨.inl ⟨_,.bool true,[],rfl,fun n=>rfl,.bool true,ou _,fun n=>⟨.nil,fun n h=>nomatch h⟩⟩,.of_keep (m▸g.base),t.os,.of_eq (t.gens.trans hg)⟩
end Internal
set_option maxHeartbeats 8000000 in
theorem PySem.Challenge.cw_pq0016_01_holds : PySem.Challenge.rw_pq0016_01.Holds :=
 hd (by
 intro w s₀ s₁ mg mb G Y fa o pm cd doc dV kV ho hd' hcd hD hmg hg args vals as hpre hlay hrd hwl hlo;have KX:=kIn_of Y;clear ho hd' hcd hD Y
 wrow_args hpre hlay hrd hwl hlo
 rename_i hL _ _ _ hI _ hz _;exact Internal.jk Internal.nw (w,s₁.heap) s₀ s₁ _ _ _ _ _ _ _ _ rfl (topRead_of G.T) KX hmg hg hL hI (by omega))
