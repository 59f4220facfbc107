import PyProof.Rows.All
import Wide.All
import OpenK.AllK
import Wide.FinOn
import PySem.Challenge.RW_pq0016_01
open Array renaming getElem?_toList→Dx,length_toList→Gz,getElem?_eq_getElem→Ki,getElem?_eq_some_iff→Ny,toList_push→QT,toList_inj→jb,mem_toList_iff→Zez
open Bool renaming and_eq_true→Fq,false_ne_true→Gx,false_eq_true→HU,not_true→Iv,or_false→jv,and_eq_true_iff→Zeu,not_eq_eq_eq_not→Zfu
open Classical renaming byContradiction→Te,em→ix,epsilon→Zew,epsilon_spec→Zex
open False renaming elim→DR
open ForInStep renaming yield→QR
open Function renaming comp→N9
open Inhabited renaming default→BV
open Int renaming toNat_natCast→EW,zero_add→Jn,add_zero→Nh,toNat_of_nonneg→YE,le_trans→YF,natCast_nonneg→Yc,add_assoc→ir,mul_zero→iu,ofNat_le→iw,le_of_lt→iy,lt_trans→iz,not_lt→jD,fmod_nonneg_of_pos→Zfz
open Int.ofNat renaming inj→jx
open List renaming length_map→AU,mem_singleton→Ap,mem_cons→A7,mem_map→BD,length_append→BJ,getElem?_eq_some_iff→BY,map_map→Bx,range→B6,mem_append→CE,map_cons→CF,getElem?_map→CK,map_append→Cw,length_singleton→DD,mem_of_getElem?→DE,mem_filter→Dn,mem_cons_self→Dq,getElem?_eq_getElem→Dy,map_congr_left→Dz,mem_append_right→Ek,getElem?_append_left→Es,length_zipIdx→Et,nodup_cons→FU,all_eq_true→Fo,getElem?_eq_none_iff→Gb,take_add_one→G4,not_mem_nil→HY,getElem?_set_ne→H6,take_of_length_le→Io,length_set→Ir,getElem?_append_right→It,map→Iu,mem_append_left→Jo,filter_map→Js,pairwise_cons→Jt,getElem?_set_self→Jv,eq_nil_of_length_eq_zero→Lp,getElem?_eq_none→Lz,filter_cons→L7,length_range→MF,mem_range→MH,foldl_cons→MI,pairwise_map→Np,nodup_append→Nx,filterMap_cons→N1,length_take→N8,zipIdx_append→OA,length_filter_le→OB,of_mem_zip→QO,lookup_cons→QP,pairwise_iff_getElem→QY,map_id→Qe,foldl_append→Qg,toArray→Qh,mem_cons_of_mem→Tw,getElem_mem→T5,append_nil→T8,length_cons→UC,ext_getElem?→UM,filter_congr→UN,take_left'→UO,eq_nil_or_concat→UP,concat_eq_append→UQ,getElem?_of_mem→US,reverse_cons→YN,zip_cons_cons→YT,find?_cons→YX,append_assoc→Yr,find?_eq_none→Yw,filter_sublist→Yz,filter_eq_nil_iff→jA,getElem?_range→jJ,filter_append→jK,eraseIdx_cons_succ→jP,nodup_nil→je,Pairwise→jh,pairwise_append→ji,pairwise_lt_range→jj,take_length→jl,range_succ→jy,length→j0,length_eq_zero_iff→j5,sum_cons→j6,dropLast_concat→j9,filter_eq_self→Zf6,mem_iff_getElem?→Zfb,length_eraseIdx→Zfh,flatten_append→Zfp,pairwise_singleton→Zfs,mem_of_mem_take→Zg2,mem_map_of_mem→Zg3,mk_mem_zipIdx_iff_getElem?→Zg4
open List.Perm renaming swap→jq
open List.cons renaming injEq→Qc,inj→jO
open Max renaming max→EO
open Min renaming min→Do
open Nat renaming le_trans→AK,le_of_eq→Ac,le_refl→A9,zero_le→Be,ne_of_lt→Bp,succ_le_succ→CG,le_of_succ_le→Cy,succ_pos→Cz,lt_irrefl→EP,le_of_not_lt→EU,le_antisymm→Ep,le_succ_of_le→Ga,le_succ→G1,ne_of_gt→HW,lt_succ_of_lt→H5,not_lt_zero→Lq,le_total→Ni,lt_succ_self→Nv,lt_of_lt_of_le→OD,le_of_lt→QQ,sub_self→Qf,min_eq_left→Tf,min_eq_right→Tg,max_eq_right→Th,max_eq_left→Ti,lt_of_succ_lt_succ→YG,lt_of_le_of_lt→Yh,strongRecOn→Yt,not_lt→jB,lt_trans→jg,exists_eq_succ_of_ne_zero→jz,le_of_ble_eq_true→Zev,add_le_add_right→Zff
open Nat.succ renaming inj→YD
open Option renaming some_ne_none→Ag,ne_none_iff_exists'→ER,isSome_iff_exists→Lu,map_eq_some_iff→QH,isSome_some→Qd,map→Yv,or_none→Yx,isSome_none→Yy,getD_some→j8,map_eq_none_iff→Zfv,not_isSome_iff_eq_none→Zg0
open Option.some renaming inj→Ao
open Prod.mk renaming inj→Nj
open PyProof.Rows renaming seqObj→Bq,Good→By,Back→HZ,IntsAre→Jp,sortedHeap→UD,get?_update_seq→UE,size_push'→Yg,callWith_type→i9
open PyProof.Rows.F renaming plain_set_update_loop→jm,entry_set_update_loop→Zfd
open PySem renaming Addr→AB,World→AD,wpAny_bind→AE,Shared→AN,wpAny→AR,wpAny_mono→AT,Around→AX,wpAny_pure→Ad,model→Ae,Env→Af,FuncData→Ai,eval→A0,Pos→A3,Heap→A5,callEnv→BA,starEach→Bb,mainGlobals→Bk,rawInt→Bm,wpAny_holding→CI,sizeLine_eq→CJ,holding→CW,standAt→Cp,Obj→C6,Scope→C7,Stmt→DC,backTo→Dp,compareOp→EC,wpAny_standAt→EQ,callWith→ES,intKind→FG,codeAny→FI,NameKind→FV,execs→Fp,assign→Fs,exec→GX,getMethod→GZ,OsState→Gu,GenState→Gw,bootBuiltins→Gy,callEnvC→G0,foldedSetIterable→G2,relabel→G3,Expr→G5,bindArgs→HQ,cellsFrom→HR,wpAny_call_entry→HT,Program→Hz,cLine→H0,backToKw→H3,keywordEach→H4,StrKeys→Ij,nsFind→Ik,Flow→Il,getItem→Ip,Drawn→Iw,pyNext→Jq,Result→Ju,scanBound→Kd,binaryOp→Ke,wpAny_askSetting→Kf,wpAny_call→Kg,atKey→Kh,wpAny_field→Kj,importedModules→Lo,wpAny_loadName_local→Lr,release→Ls,getAttr→Lv,letTemporaryGo→Lw,wpAny_of_eq→Lx,compEnvC→Ly,valueAt→L1,wpAny_rule→MB,PyData→MC,wpAny_setField→MG,wpAny_Name→Nk,typeOf→No,pyIter→Nq,noteFrame→Nr,wpAny_newObj_type→Nt,sizeLine→Nu,delItem→Nw,typeLookup→Nz,codeAny_mono→N4,Slot→N5,codeAny_builtin→N7,wpAny_loadPart_at→OC,wpAny_truthy_bool→QJ,wpAny_execs_cons→QK,swapsWith→QL,wpAny_assign_Name→QM,compPost→QS,intItems→QW,wpAny_setState_of→QZ,argsOk→Qb,Builtin→Tb,builtinsNs→Tj,wpAny_Constant_str→Tk,wpAny_items_nil→Tm,wpAny_items_cons→Tn,wpAny_Call_Name_kw→Ts,call_meetsIn→Tv,compTurn→Tx,newList→Tz,atKey_none_of_get→UA,wpAny_specialOf→UB,wpAt_mono→UG,relayAll→UH,codeAny_of_tree→UJ,pickOrder→UK,isInstance→UL,DictEntry→YH,behindInMarks→YJ,wpAny_execs_nil→YK,wpAny_storeName_local→YL,assignEach→YM,wpAny_loadPart→YQ,letOwnedTupleGo→YU,comprehension→YV,wpAny_list_append_plain→YW,evalPart_none→Yd,wpAny_typeOf→Ye,wpAt→Yi,intKind_is→Yl,plainId_quiet→Ym,typeLookup_type→Yo,builtinLookup_eq_fast→Yp,isSubtype_type→Yq,wpAny_load→Ys,pushCells→Y0,wpAny_mkText→i6,codeAny_loop→jE,theTreesLotGoes→jF,wpAny_comprehension_free→jG,lookup_relabel_local→jH,codeAny_compStart_list→jI,wpAny_delItem_slot→jN,wpAny_dictEntries→jR,size_of_entries→jS,slot_dict_contains→jT,wpAny_notOrdered_dict→jU,slot_dict_getitem→jV,wpAny_callSpecial?_slot→jW,wpAny_listPart→jY,wpAny_seqItems→jZ,wpAny_updateSeq→ja,fits_of_scanBound→jk,codeAny_call_builtin→jp,wpAny_setEntries_of→jt,wpAny_attempt→ju,wpAny_newList→jw,checkBoundCall→j3,pairTrees_cons_walk→j7,wpAny_getItem_list_slice→Zf8
open PySem.Around renaming frames_deeper→Km,under_plainId→UI
open PySem.Builtin.Dict renaming takeOut→jQ,keyAndDefault→Zf7
open PySem.Builtin.Frozenset renaming sizeOf→Zfj
open PySem.Builtin.List renaming listTooLong→jL,listSubscript?→jX,listItems→Zf9,listLengthHint→Zfk,listExtendWith→Zfm,listSameRef→Zfn
open PySem.Builtin.ObjectAttr renaming storeInDict→Zfx
open PySem.Builtin.Range renaming rangeSize→jC,small→Zf1
open PySem.Builtin.Str renaming occurrences→Zfa
open PySem.Calls renaming Name_function_global→YI,loadGlobal_global→i3,loadGlobal_builtin→i4,callWith_function→i7,callWith_builtin→i8,call_function_entry→Zfo
open PySem.Code renaming builtin→UF,quiet_builtin→Yn
open PySem.DictEntry renaming refKey→Zf0
open PySem.Expr renaming Name→Yu
open PySem.F renaming slot_list_pop→FW,slot_list_append→Fu,type_list_append→Fv,type_list_pop→Fw,called_set→ME,slot_dict_setdefault→T9,slot_dict_delitem→YY,slot_dict_pop→YZ,slot_list_extend→jM,type_dict_setdefault→j1,ks_slot_super_ga→j2,plainAttrs_dict→Zf2,slot_dict_values→Zf3,entry_dict_setdefault→Zf4,args_dict_setdefault_3→Zf5,plain_set_new→Zfe,slot_set_iter→Zfi,plain_list_iadd→Zfl,plainAttrs_list→Zfq,type_list_extend→Zfr,type_dict_pop→Zft,excBase_Exception→Zfw
open PySem.Heap renaming get?_push_of_some→BC,get?_push_size→B2,lt_size→DP,SameBut→FH,get?_update_self→GY,get?_update_other→HV,get?_none_of_le→Im,size_push→Jr,size_update→QV,get?_push_ne→Qi,HeldW→UR,ExtBut→i5,FlyingW→j4,get?_update_ne→Zfy
open PySem.Heap.SameBut renaming update→Eo
open PySem.Obj renaming mapSeq→Dd,putName→Nl,putNameByArray→YO,isFreed_of_dict→YR,data_mapDictKeys→Yb
open PySem.PyData renaming eqv→HX,keyHash→Nm,depthAll→jc,canLay0→jd,canLayAll0→Zg1
open PySem.SeqAt renaming shaped→Iq
open PySem.SetTable renaming below→Er,grown→Qa
open PySem.SetTable.Met renaming candidate→Zfc
open PySem.SetTable.Met.empty renaming inj→Zg5
open PySem.SetTable.below renaming go→Kk
open PySem.SetTable.probe renaming go→Yk
open PySem.Shared renaming TypeIs→jo
open PySem.Str renaming ofString→QU
open PySem.Value renaming type→El,ref→Ft,none→MA,int→N6,isInt_shape→QI
open PySem.Value.ref renaming inj→Tu
open PySem.Value.str renaming inj→Zey
open PySem.W renaming nsIn→Co,emptyDict→ET,kqdP→EY,boot_heap→Gv,hideAll→H7,Looks→Kl,kqdPs→Kn,methodObj→MD,keepIn→Nn,SharedT→QG,findIn→QN,instObj→QX,boot_drawn→Tc,boot_toks→Td,plainGet_of→Tp,looks_clsIn→Tq,codeRec_of→Tt,staticsOk→YB,namesBound→YC,methodCall_KW→YS,looks_mroIn→Yj,looks_findIn→jf
open PySem.W.WShape renaming has→kA
open PySem.pickOrder renaming go→jr
open String renaming splitOnAux→Zfg
open PySem PySem.W PySem.Calls PyProof.Rows
set_option compiler.extract_closed false
set_option bootstrap.genMatcherCode false
set_option Elab.async false
set_option maxRecDepth 100000
set_option linter.all false
namespace Internal
noncomputable def OS(tb:String→Option Tb)(p:Hz)(w:AD)(m:Nat)(a0:Option Value):Nat→QG→Thread→Option QG
  |0,_,_=>none
  |n+1,s,t=>match through t with
    |true=>some s
    |false=>match stepOk m a0 t with
      |false=>none
      |true=>match stepT (denote tb) p w s t with
        |some (s',t')=>OS tb p w m a0 n s' t'
        |none=>none
theorem q9{tb:String→Option Tb}{p:Hz}{w:AD}{m:Nat}{a0:Option Value}{n:Nat}:∀{s s':QG}{t:Thread},OS tb p w m a0 n s t=some s'→topRun tb p w m a0 n s.abs t=some s'.abs:=by
  induction n with
  |zero=>intro s s' t h;cases h
  |succ n ih=>
    intro s s' t h;unfold OS at h;unfold topRun;cases he:through t with
    |true=>rw[he]at h;cases h;rfl
    |false=>
      rw[he]at h;cases hk:stepOk m a0 t with
      |false=>rw[hk]at h;cases h
      |true=>
        rw[hk]at h;cases hs:stepT (denote tb) p w s t with
        |none=>rw[hs]at h;cases h
        |some r=>obtain⟨s₂,a1⟩:=r;rw[hs]at h;rw[stepT_spec hs];exact ih h
noncomputable def pn(l:List C6):BT:=(l.foldl (fun(x:BT×Nat) o=>(x.1.ins x.2 o,x.2+1)) (.nil,0)).1
noncomputable def R1(w:AD)(os:Gu):QG:=⟨pn (Gv w.params).objs.toList,(Gv w.params).objs.size,(Gv w.params).life,#[],Tc,Td,os⟩
noncomputable abbrev HE:Hz:=PySem.Challenge.pw_pq0016_01
noncomputable def vw:Hz:=view HE [0,2,3,5,6,7,9,11,13,14,16,17,18,19,20,21,22,23]
noncomputable abbrev Ro:AN→Bool:=fun s=>xlAt vw [] s&&recOk [] s
theorem kB(w:AD)(os:Gu):(R1 w os).abs=⟨Gv w.params,#[],Tc,Td,os⟩:=by kernel_rfl
noncomputable abbrev ZC(w:AD)(os:Gu):Option QG:=(OS treeTable HE w (Gv w.params).objs.size ((Gv w.params).nsMap Bk "__annotations__") 4000 (R1 w os) (topStub HE))
theorem Zbf:∀(w:AD),((Gv w.params).isNs Bk&&(#[]:Array Gw).size==0)=true:=by intro w;kernel_rfl
theorem ri(w:AD):∃os,fencedOpening treeTable HE w 4000=some ⟨Gv w.params,#[],Tc,Td,os⟩:=by
  have hb:=boot_open (p:=HE) (N:=4000) (by kernel_rfl) (by decide) (fun s=>by kernel_rfl) w;obtain⟨⟨h,n,d,k,os⟩,e,m⟩:=QH.mp hb;obtain⟨rfl,rfl,rfl,rfl⟩:h=Gv w.params∧n=#[]∧d=Tc∧k=Td:=by simpa using m
  exact⟨os,e⟩
theorem xT{m:String→Option Tb}{p:Hz}{w:AD}{N:Nat}{s₀ s₁:AN}(h1:(s₀.heap.isNs Bk&&s₀.gens.size==0)=true)(n:topRun m p w s₀.heap.objs.size (s₀.heap.nsMap Bk "__annotations__") N s₀ (topStub p)=some s₁)
    (h3:(YB (Lo p.main.body) s₀.heap s₁.heap&&YC p s₁.heap&&gensDone s₁&&laidKept s₀.heap s₁.heap)=true):topFrom m p w N s₀=some s₁:=by
  unfold topFrom;rw[h1,n];show(match(YB (Lo p.main.body) s₀.heap s₁.heap&&YC p s₁.heap&&gensDone s₁&&laidKept s₀.heap s₁.heap)with|true=>_|false=>_)=_
  rw[h3]
theorem sg{m:String→Option Tb}{p q:Hz}{loose:List Str}{Xt:AN→Bool}{α:Type}{Yf:AN→α}{x:α}{w:AD}{N:Nat}{s₀ s₁:AN}(e:fencedOpening m p w N=some s₀)(t:topFrom m p w N s₀=some s₁)
    (l1:openSeen q loose (Lo p.main.body) Xt true s₁=openGood q loose)(l2:Yf s₁=x):(openEnds m p w N).map (fun s=>(openSeen q loose (Lo p.main.body) Xt true s,Yf s))=some (openGood q loose,x):=by
  unfold openEnds;rw[e];show(topFrom m p w N s₀).map _=_;rw[t];exact congrArg some (Prod.ext l1 l2)
theorem U5{α β γ:Type}{a m:α}{b n:β}{c c':γ}(h:(a,b,c)=(m,n,c')):a=m∧b=n∧c=c':=⟨congrArg (·.1) h,congrArg (·.2.1) h,congrArg (·.2.2) h⟩
theorem wW{tb:String→Option Tb}{p:Hz}{w:AD}{m:Nat}{a0:Option Value}{n:Nat}{s s':QG}{t:Thread}{a:AN}(e:s.abs=a)(h:OS tb p w m a0 n s t=some s'):topRun tb p w m a0 n a t=some s'.abs:=e▸q9 h
theorem nQ{H:Hook}(h:∀w os,(ZC w os).map (fun s=>(H.obs s.abs,(YB (Lo HE.main.body) (Gv w.params) s.abs.heap&&YC HE s.abs.heap&&gensDone s.abs&&laidKept (Gv w.params) s.abs.heap),openSeen vw [] (Lo HE.main.body) Ro true s.abs))=some (H.val w,true,openGood vw [])):LeftO HE vw [] Ro H.obs H.val 4000:=fun w=>
  (ri w).elim fun os e=>(QH.mp (h w os)).elim fun s r=>sg e (xT (s₀:=⟨Gv w.params,#[],Tc,Td,os⟩) (Zbf w) (wW (kB w os) r.1) (U5 r.2).2.1) (U5 r.2).2.2 (U5 r.2).1
theorem pZ:PySem.Challenge.rw_pq0016_01.wellSaid=true:=(congrFun PySem.W.Fast.te9446332074065402090 _).trans (by kernel_rfl)
set_option maxHeartbeats 8000000
theorem hO{d:DefRec}{kwd:List (Str×Expr)}(H:Hook)
    (h:∀w os,(ZC w os).map (fun s=>(H.obs s.abs,(YB (Lo HE.main.body) (Gv w.params) s.abs.heap&&YC HE s.abs.heap&&gensDone s.abs&&laidKept (Gv w.params) s.abs.heap),openSeen vw [] (Lo HE.main.body) Ro true s.abs))=some (H.val w,true,openGood vw []))
    (hd:defOf vw PySem.Challenge.rw_pq0016_01.row.name=some (d,kwd))(hp:PySem.Challenge.rw_pq0016_01.row.prog.theDef PySem.Challenge.rw_pq0016_01.row.name=some (d.params,d.body,d.scope))(hk:kwWritten? d.params.kwonlyargs d.params.kw_defaults=some kwd)
    (hw:PySem.Challenge.rw_pq0016_01.row.toRowW.promised)(hc:WalkO vw [] (XL vw []) H.says PySem.Challenge.rw_pq0016_01.row.toRowW d kwd fun f vs=>PySem.call f vs):PySem.Challenge.rw_pq0016_01.row.Holds:=
  PySem.W.holds_open (q:=vw) (loose:=[]) (Xt:=Ro) (XP:=XL vw []) (Yf:=H.obs) (Ya:=H.val) (YP:=H.says) (N:=4000) (nQ h) H.of H.keeps (fun s e=>xl_of s (Zeu.mp e).1) XL.keeps hd hp hk (fun s e=>recFacts_of (Zeu.mp e).2) (by rfl) (by decide+kernel) (by decide+kernel) ⟨rfl,rfl,rfl,rfl,rfl,by decide+kernel⟩ hw hc
theorem oL(h:PySem.Challenge.rw_pq0016_01.row.Holds):PySem.Challenge.rw_pq0016_01.Holds:=holds_law pZ fun _=>h
end Internal
local macro_rules
  |`(tactic|o_head $H:term)=>`(tactic|(apply Internal.hO $H;intro w os;kernel_rfl;rfl;rfl;rfl))
local macro_rules
  |`(tactic|o_law)=>`(tactic|apply Internal.oL)
open_top hd for PySem.Challenge.rw_pq0016_01
noncomputable section
set_option maxHeartbeats 1600000
set_option genSizeOf false
set_option genInjectivity false
set_option tactic.hygienic false
set_option backward.match.sparseCases false
local macro_rules (kind:=Lean.Parser.Command.declaration)
  |s=>do
    if s.getPos?.isNone then Lean.Macro.throwUnsupported
    let m:=Lean.Syntax.node .none;let s:=s.rewriteBottomUp (·.setInfo .none)
    return if s[0][1].isNone&&(s[1][0].getAtomVal=="def"||s[1][0].getAtomVal=="abbrev")then s.setArg 0 (s[0].setArg 4 (m Lean.nullKind #[m `Lean.Parser.Command.noncomputable #[Lean.mkAtom "noncomputable"]]))else s
namespace Internal
section
section
universe u v w x y z a b c d e f g h
variable {α:Sort u}{β:Sort v}{γ:Sort w}{δ:Sort x}{ε:Sort y}{ζ:Sort z}{η:Sort a}{θ:Sort b}{ι:Sort c}{κ:Sort d}{μ:Sort e}{ν:Sort f}{ξ:Sort g}{ο:Sort h}{c:Prop}
variable {a b d e f g i j l:Prop}{A B C D E F G:α→Prop}{p q r s t o:α→β→Prop}{P Q R S T U V:α→β→γ→Prop}{H I J K L M:α→β→γ→δ→Prop}{N O W X Y Z:α→β→γ→δ→ε→Prop}
theorem AY(h:∃x,A x)(k:∀x,A x→c):c:=by obtain⟨x,a⟩:=h;exact k x a
theorem AL(h:a∧b)(k:a→b→c):c:=by obtain⟨a,b⟩:=h;exact k a b
theorem B0(h:∃x y,p x y)(k:∀x y,p x y→c):c:=by obtain⟨x,y,a⟩:=h;exact k x y a
theorem GG(h:a∧∃x,A x)(k:a→∀x,A x→c):c:=by obtain⟨a,x,b⟩:=h;exact k a x b
theorem AI(h:∃x,A x∧B x)(k:∀x,A x→B x→c):c:=by obtain⟨x,a,b⟩:=h;exact k x a b
theorem LY(h:∃x y z,P x y z)(k:∀x y z,P x y z→c):c:=by obtain⟨x,y,z,a⟩:=h;exact k x y z a
theorem BN(h:a∧b∧d)(k:a→b→d→c):c:=by obtain⟨a,b,d⟩:=h;exact k a b d
theorem Fz(h:∃x,(∃y,p x y)∧A x)(k:∀x y,p x y→A x→c):c:=by obtain⟨x,⟨y,a⟩,b⟩:=h;exact k x y a b
theorem Cr(h:∃x y,p x y∧q x y)(k:∀x y,p x y→q x y→c):c:=by obtain⟨x,y,a,b⟩:=h;exact k x y a b
theorem Ei(h:∃x y z u,H x y z u)(k:∀x y z u,H x y z u→c):c:=by obtain⟨x,y,z,u,a⟩:=h;exact k x y z u a
theorem Rt(h:a∧∃x,A x∧B x)(k:a→∀x,A x→B x→c):c:=by obtain⟨a,x,b,d⟩:=h;exact k a x b d
theorem B3(h:∃x,A x∧B x∧C x)(k:∀x,A x→B x→C x→c):c:=by obtain⟨x,a,b,d⟩:=h;exact k x a b d
theorem K0(h:∃x y z,P x y z∧Q x y z)(k:∀x y z,P x y z→Q x y z→c):c:=by obtain⟨x,y,z,a,b⟩:=h;exact k x y z a b
theorem Bv(h:a∧b∧d∧e)(k:a→b→d→e→c):c:=by obtain⟨a,b,d,e⟩:=h;exact k a b d e
theorem M0(h:a∧∃x y,p x y∧q x y)(k:a→∀x y,p x y→q x y→c):c:=by obtain⟨a,x,y,b,d⟩:=h;exact k a x y b d
theorem FN(h:∃x y,p x y∧q x y∧r x y)(k:∀x y,p x y→q x y→r x y→c):c:=by obtain⟨x,y,a,b,d⟩:=h;exact k x y a b d
theorem KL(h:∃x y z u,H x y z u∧I x y z u)(k:∀x y z u,H x y z u→I x y z u→c):c:=by obtain⟨x,y,z,u,a,b⟩:=h;exact k x y z u a b
theorem Mi{m:γ→Prop}(h:(∃x y,p x y∧q x y)∧∃z,m z)(k:∀x y,p x y→q x y→∀z,m z→c):c:=by obtain⟨⟨x,y,a,b⟩,z,d⟩:=h;exact k x y a b z d
theorem LM(h:a∧∃x,A x∧B x∧C x)(k:a→∀x,A x→B x→C x→c):c:=by obtain⟨a,x,b,d,e⟩:=h;exact k a x b d e
theorem Ii(h:∃x,A x∧B x∧C x∧D x)(k:∀x,A x→B x→C x→D x→c):c:=by obtain⟨x,a,b,d,e⟩:=h;exact k x a b d e
theorem Pf(h:∃x y z,P x y z∧Q x y z∧R x y z)(k:∀x y z,P x y z→Q x y z→R x y z→c):c:=by obtain⟨x,y,z,a,b,d⟩:=h;exact k x y z a b d
theorem LG(h:a∧b∧d∧e∧f)(k:a→b→d→e→f→c):c:=by obtain⟨a,b,d,e,f⟩:=h;exact k a b d e f
theorem MN(h:a∧∃x y,p x y∧q x y∧r x y)(k:a→∀x y,p x y→q x y→r x y→c):c:=by obtain⟨a,x,y,b,d,e⟩:=h;exact k a x y b d e
theorem Pm(h:∃x,(∃y z u,H x y z u∧I x y z u)∧A x)(k:∀x y z u,H x y z u→I x y z u→A x→c):c:=by obtain⟨x,⟨y,z,u,a,b⟩,d⟩:=h;exact k x y z u a b d
theorem xt(h:∃x y,p x y∧q x y∧r x y∧s x y)(k:∀x y,p x y→q x y→r x y→s x y→c):c:=by obtain⟨x,y,a,b,d,e⟩:=h;exact k x y a b d e
theorem RD(h:∃x y z u,H x y z u∧I x y z u∧J x y z u)(k:∀x y z u,H x y z u→I x y z u→J x y z u→c):c:=by obtain⟨x,y,z,u,a,b,d⟩:=h;exact k x y z u a b d
theorem OJ(h:∃x y,p x y∧(∃z,P x y z∧Q x y z)∧q x y)(k:∀x y,p x y→∀z,P x y z→Q x y z→q x y→c):c:=by obtain⟨x,y,a,⟨z,b,d⟩,e⟩:=h;exact k x y a z b d e
theorem uh(h:∃x y z,P x y z∧Q x y z∧R x y z∧S x y z)(k:∀x y z,P x y z→Q x y z→R x y z→S x y z→c):c:=by obtain⟨x,y,z,a,b,d,e⟩:=h;exact k x y z a b d e
theorem J3(h:∃x,(∃y z u,H x y z u∧I x y z u∧J x y z u)∧A x)(k:∀x y z u,H x y z u→I x y z u→J x y z u→A x→c):c:=by obtain⟨x,⟨y,z,u,a,b,d⟩,e⟩:=h;exact k x y z u a b d e
theorem Sg(h:a∧∃x y z,P x y z∧Q x y z∧R x y z∧S x y z)(k:a→∀x y z,P x y z→Q x y z→R x y z→S x y z→c):c:=by obtain⟨a,x,y,z,b,d,e,f⟩:=h;exact k a x y z b d e f
theorem V5(h:∃x,(∃y z u,H x y z u∧I x y z u∧J x y z u∧K x y z u)∧A x)(k:∀x y z u,H x y z u→I x y z u→J x y z u→K x y z u→A x→c):c:=by obtain⟨x,⟨y,z,u,a,b,d,e⟩,f⟩:=h;exact k x y z u a b d e f
theorem OP(h:∃x y z,P x y z∧Q x y z∧R x y z∧S x y z∧T x y z∧U x y z)(k:∀x y z,P x y z→Q x y z→R x y z→S x y z→T x y z→U x y z→c):c:=by obtain⟨x,y,z,a,b,d,e,f,g⟩:=h;exact k x y z a b d e f g
theorem KT(h:∃x y z u v,N x y z u v∧O x y z u v∧W x y z u v∧X x y z u v∧Y x y z u v)(k:∀x y z u v,N x y z u v→O x y z u v→W x y z u v→X x y z u v→Y x y z u v→c):c:=by obtain⟨x,y,z,u,v,a,b,d,e,f⟩:=h;exact k x y z u v a b d e f
theorem Ru{m:β→Prop}{n:β→Prop}{p2:β→Prop}(h:a∧b∧d∧(∃x,A x)∧∃y,m y∧n y∧p2 y)(k:a→b→d→∀x,A x→∀y,m y→n y→p2 y→c):c:=by obtain⟨a,b,d,⟨x,e⟩,y,f,g,i⟩:=h;exact k a b d x e y f g i
theorem Mx{p0:α→β→γ→δ→ε→ζ→η→θ→ι→κ→μ→ν→ξ→ο→Prop}(h:∃x y z u v w t o s r q p n m,p0 x y z u v w t o s r q p n m)(k:∀x y z u v w t o s r q p n m,p0 x y z u v w t o s r q p n m→c):c:=by obtain⟨x,y,z,u,v,w,t,o,s,r,q,p,n,m,a⟩:=h;exact k x y z u v w t o s r q p n m a
theorem SB(h:∃x y z,P x y z∧Q x y z∧R x y z∧S x y z∧T x y z∧U x y z∧V x y z)(k:∀x y z,P x y z→Q x y z→R x y z→S x y z→T x y z→U x y z→V x y z→c):c:=by obtain⟨x,y,z,a,b,d,e,f,g,i⟩:=h;exact k x y z a b d e f g i
theorem SN(h:a∧∃x y z,P x y z∧(∃u,H x y z u∧I x y z u∧J x y z u)∧Q x y z∧R x y z)(k:a→∀x y z,P x y z→∀u,H x y z u→I x y z u→J x y z u→Q x y z→R x y z→c):c:=by obtain⟨a,x,y,z,b,⟨u,d,e,f⟩,g,i⟩:=h;exact k a x y z b u d e f g i
theorem As{α:Type _}{x:α}{c:Prop}(e:none=some x):c:=nomatch e
theorem Bh{α:Type _}{x:α}{c:Prop}(e:some x=none):c:=nomatch e
theorem CQ{c:Prop}[Decidable c]{a b:Prop}(h:c)(x:a):if c then a else b:=by rw[if_pos h];exact x
theorem cw{c:Prop}[Decidable c]{a b:Prop}(h:¬c)(x:b):if c then a else b:=by rw[if_neg h];exact x
theorem S8(h:a∧∃x y,p x y)(k:a→∀x y,p x y→c):c:=by obtain⟨a,x,y,b⟩:=h;exact k a x y b
theorem Ba{b:Bool}{x y:Prop}(h:b=false)(k:y):if b=true then x else y:=cw (by rw[h];exact Gx) k
theorem ln{a b c:Nat}(h:a≤b)(k:Nat.ble b c=true):a≤c:=AK h (Zev k)
theorem ld{a b:Nat}(k:Nat.ble a b=true):a≤b:=Zev k
theorem IG{α:Type _}{n:Nat}{vs:List α}(h:vs.length=n+1):∃a t,t.length=n∧vs=a::t:=by
 cases vs with
 |nil=>exact nomatch h
 |cons a t=>exact⟨a,t,YD h,rfl⟩
theorem SR{α:Type _}{vs:List α}(h:vs.length=0):vs=[]:=Lp h
theorem FL{fd:Ai}{n:Str}(h:∀m,HQ fd ⟨[m],[]⟩=pure [(n,m)])(vs:List Value)(hv:vs.length=[n].length):HQ fd ⟨vs,[]⟩=pure ([n].zip vs):=by
 refine Cr (IG hv) fun m t0 z0 e0=>?_;subst e0;cases SR z0;exact h m
theorem DG{fd:Ai}{x0 x1:Str}(h:∀m n,HQ fd ⟨[m,n],[]⟩=pure [(x0,m),(x1,n)])(vs:List Value)(hv:vs.length=[x0,x1].length):HQ fd ⟨vs,[]⟩=pure ([x0,x1].zip vs):=by
 refine Cr (IG hv) fun m t0 z0 e0=>?_;subst e0;refine Cr (IG z0) fun n t1 z1 e1=>?_;subst e1;cases SR z1;exact h m n
theorem KI{fd:Ai}{x0 x1 x2:Str}(h:∀a0 m n,HQ fd ⟨[a0,m,n],[]⟩=pure [(x0,a0),(x1,m),(x2,n)])(vs:List Value)(hv:vs.length=[x0,x1,x2].length):HQ fd ⟨vs,[]⟩=pure ([x0,x1,x2].zip vs):=by
 refine Cr (IG hv) fun a0 t0 z0 e0=>?_;subst e0;refine Cr (IG z0) fun m t1 z1 e1=>?_;subst e1;refine Cr (IG z1) fun n t2 z2 e2=>?_;subst e2;cases SR z2;exact h a0 m n
theorem Ku{fd:Ai}{x0 x1 x2 x3:Str}(h:∀a0 n a2 m,HQ fd ⟨[a0,n,a2,m],[]⟩=pure [(x0,a0),(x1,n),(x2,a2),(x3,m)])(vs:List Value)(hv:vs.length=[x0,x1,x2,x3].length):HQ fd ⟨vs,[]⟩=pure ([x0,x1,x2,x3].zip vs):=by
 refine Cr (IG hv) fun a0 t0 z0 e0=>?_;subst e0;refine Cr (IG z0) fun n t1 z1 e1=>?_;subst e1;refine Cr (IG z1) fun a2 t2 z2 e2=>?_;subst e2;refine Cr (IG z2) fun m t3 z3 e3=>?_;subst e3;cases SR z3;exact h a0 n a2 m
end
end
@[elab_as_elim]theorem er{α:Sort u}{b:α}{p:α→Prop}(a:α)(h:a=b)(k:p b):p a:=h▸k
@[elab_as_elim]theorem zC{α:Sort u}{b:α}{p:α→Prop}(a:α)(h:b=a)(k:p b):p a:=h▸k
inductive NE where
 |v (i:Nat)|n (k:Nat)|a (x y:NE)|m (k:Nat) (x:NE)
inductive IE where
 |c (x:NE)|n (k:Int)|a (x y:IE)|s (x y:IE)|g (x:IE)
inductive FE where
 |l (x y:NE)|t (x y:NE)|e (x y:NE)
 |L (x y:IE)|T (x y:IE)|E (x y:IE)
 |o (p:FE)|d (p q:FE)|r (p q:FE)|i (p q:FE)|w (p q:FE)|f
def R7:List Nat→Nat→Nat
 |[],_=>0
 |x::xs,0=>x
 |x::xs,i+1=>R7 xs i
def NE.den(c:List Nat):NE→Nat
 |.v i=>R7 c i
 |.n k=>k
 |.a x y=>x.den c+y.den c
 |.m k x=>k*x.den c
def IE.den(c:List Nat):IE→Int
 |.c x=>x.den c
 |.n k=>k
 |.a x y=>x.den c+y.den c
 |.s x y=>x.den c-y.den c
 |.g x=>-x.den c
def FE.den(c:List Nat):FE→Prop
 |.l x y=>x.den c≤y.den c
 |.t x y=>x.den c<y.den c
 |.e x y=>x.den c=y.den c
 |.L x y=>x.den c≤y.den c
 |.T x y=>x.den c<y.den c
 |.E x y=>x.den c=y.den c
 |.o p=>¬p.den c
 |.d p q=>p.den c∧q.den c
 |.r p q=>p.den c∨q.den c
 |.i p q=>p.den c→q.den c
 |.w p q=>p.den c↔q.den c
 |.f=>False
structure BW where
 k:Int
 cs:List Int
def ev:List Nat→List Int→Int
 |x::xs,a::m=>a*x+ev xs m
 |_,_=>0
def BW.den(c:List Nat)(l:BW):Int:=l.k+ev c l.cs
theorem x4(a b c d:Int):(a+b)+(c+d)=(a+c)+(b+d):=by rw[ir,ir,Int.add_left_comm b]
def Oe:List Int→List Int→List Int
 |[],ys=>ys
 |x::xs,[]=>x::xs
 |x::xs,y::ys=>(x+y)::Oe xs ys
theorem KE(c:List Nat):ev c []=0:=by cases c<;>rfl
theorem Zbe:∀(xs ys:List Int)(c:List Nat),ev c (Oe xs ys)=ev c xs+ev c ys:=by
 intro xs
 induction xs with
 |nil=>intro ys c;rw[KE,Jn];rfl
 |cons x xs m=>
  intro ys c;cases ys with
  |nil=>rw[KE,Nh];rfl
  |cons y ys=>
   cases c with
   |nil=>rfl
   |cons z c=>
    show(x+y)*z+ev c (Oe xs ys)=(x*z+ev c xs)+(y*z+ev c ys);rw[m,Int.add_mul];exact x4 _ _ _ _
def Pa(k:Int):List Int→List Int
 |[]=>[]
 |x::xs=>(k*x)::Pa k xs
theorem Zal(k:Int):∀(xs:List Int)(c:List Nat),ev c (Pa k xs)=k*ev c xs:=by
 intro xs
 induction xs with
 |nil=>intro c;show ev c []=_;rw[KE,iu]
 |cons x xs m=>
  intro c;cases c with
  |nil=>exact(iu k).symm
  |cons z c=>
   show k*x*z+ev c (Pa k xs)=k*(x*z+ev c xs);rw[m,Int.mul_add,Int.mul_assoc]
def BW.add(a b:BW):BW:=⟨a.k+b.k,Oe a.cs b.cs⟩
def BW.mul(k:Int)(a:BW):BW:=⟨k*a.k,Pa k a.cs⟩
theorem NZ(c:List Nat)(a b:BW):(a.add b).den c=a.den c+b.den c:=by
 show a.k+b.k+ev c (Oe a.cs b.cs)=(a.k+ev c a.cs)+(b.k+ev c b.cs);rw[Zbe];exact x4 _ _ _ _
theorem NM(c:List Nat)(k:Int)(a:BW):(a.mul k).den c=k*a.den c:=by
 show k*a.k+ev c (Pa k a.cs)=k*(a.k+ev c a.cs);rw[Zal,Int.mul_add]
def Kx:Nat→List Int
 |0=>[1]
 |i+1=>0::Kx i
theorem Za:∀(i:Nat)(c:List Nat),ev c (Kx i)=R7 c i:=by
 intro i
 induction i with
 |zero=>intro c;cases c with
  |nil=>rfl
  |cons z c=>show 1*(z:Int)+ev c []=z;rw[KE,Int.one_mul,Nh]
 |succ i m=>intro c;cases c with
  |nil=>rfl
  |cons z c=>show 0*(z:Int)+ev c (Kx i)=R7 c i;rw[m,Int.zero_mul,Jn]
def NE.lin:NE→BW
 |.v i=>⟨0,Kx i⟩
 |.n k=>⟨k,[]⟩
 |.a x y=>x.lin.add y.lin
 |.m k x=>x.lin.mul k
theorem Lb(c:List Nat)(e:NE):e.lin.den c=(e.den c:Int):=by
 induction e with
 |v i=>show 0+ev c (Kx i)=_;rw[Za,Jn];rfl
 |n k=>show(k:Int)+ev c []=k;rw[KE,Nh]
 |a x y h1 h2=>exact(NZ c _ _).trans (by rw[h1,h2];rfl)
 |m k x h=>exact(NM c _ _).trans (by rw[h];rfl)
def IE.lin:IE→BW
 |.c x=>x.lin
 |.n k=>⟨k,[]⟩
 |.a x y=>x.lin.add y.lin
 |.s x y=>x.lin.add (y.lin.mul (-1))
 |.g x=>x.lin.mul (-1)
theorem Nb(c:List Nat)(e:IE):e.lin.den c=e.den c:=by
 induction e with
 |c x=>exact Lb c x
 |n k=>show(k:Int)+ev c []=k;rw[KE,Nh]
 |a x y h1 m=>exact(NZ c _ _).trans (by rw[h1,m];rfl)
 |s x y h1 m=>exact(NZ c _ _).trans (by rw[NM,h1,m];show _=IE.den c x-IE.den c y;omega)
 |g x h=>exact(NM c _ _).trans (by rw[h];show _=-IE.den c x;omega)
def df(k:Int)(x y:BW):BW:=(⟨-k,[]⟩:BW).add (y.add (x.mul (-1)))
theorem Jz(c:List Nat)(k:Int)(x y:BW):(df k x y).den c=y.den c-x.den c-k:=by
 show BW.den c (BW.add _ _)=_;rw[NZ,NZ,NM];have:BW.den c ⟨-k,[]⟩=-k:=by show -k+ev c []=-k;rw[KE,Nh]
 rw[this];omega
abbrev Br:=List (List BW)
def Pt(c:List Nat)(l:List BW):Prop:=∀x∈l,0≤x.den c
def EJ(c:List Nat)(b:Br):Prop:=∃l∈b,Pt c l
def prod(a b:Br):Br:=a.flatMap fun x=>b.map fun y=>x++y
theorem EJ.prod{c:List Nat}{a b:Br}(x:EJ c a)(y:EJ c b):EJ c (prod a b):=by
 obtain⟨l,n,s⟩:=x;obtain⟨m,hm,t⟩:=y;exact⟨l++m,List.mem_flatMap.mpr ⟨l,n,BD.mpr ⟨m,hm,rfl⟩⟩,fun z hz=>(CE.mp hz).elim (s z) (t z)⟩
theorem EJ.one{c:List Nat}{x:BW}(h:0≤x.den c):EJ c [[x]]:=⟨[x],Ap.mpr rfl,fun z m=>(Ap.mp m)▸h⟩
theorem EJ.l{c:List Nat}{a b:Br}(x:EJ c a):EJ c (a++b):=x.elim fun l h=>⟨l,Jo _ h.1,h.2⟩
theorem EJ.r{c:List Nat}{a b:Br}(x:EJ c b):EJ c (a++b):=x.elim fun l h=>⟨l,Ek _ h.1,h.2⟩
def br(x y:BW)(s:Bool):Nat→Br
 |0=>if s then[[df 0 x y]]else[[df 1 y x]]
 |1=>if s then[[df 1 x y]]else[[df 0 y x]]
 |_=>if s then prod [[df 0 x y]] [[df 0 y x]]else[[df 1 x y]]++[[df 1 y x]]
def FE.br:FE→Bool→Br
 |.l x y,s=>Internal.br x.lin y.lin s 0
 |.t x y,s=>Internal.br x.lin y.lin s 1
 |.e x y,s=>Internal.br x.lin y.lin s 2
 |.L x y,s=>Internal.br x.lin y.lin s 0
 |.T x y,s=>Internal.br x.lin y.lin s 1
 |.E x y,s=>Internal.br x.lin y.lin s 2
 |.o p,s=>p.br (!s)
 |.d p q,true=>prod (p.br true) (q.br true)
 |.d p q,false=>p.br false++q.br false
 |.r p q,true=>p.br true++q.br true
 |.r p q,false=>prod (p.br false) (q.br false)
 |.i p q,true=>p.br false++q.br true
 |.i p q,false=>prod (p.br true) (q.br false)
 |.w p q,true=>prod (p.br true) (q.br true)++prod (p.br false) (q.br false)
 |.w p q,false=>prod (p.br true) (q.br false)++prod (p.br false) (q.br true)
 |.f,true=>[]
 |.f,false=>[[]]
theorem Z8{c:List Nat}{x y:BW}:(x.den c≤y.den c→EJ c (br x y true 0))∧(¬x.den c≤y.den c→EJ c (br x y false 0)):=
 ⟨fun h=>.one (by rw[Jz];omega),fun h=>.one (by rw[Jz];omega)⟩
theorem az{c:List Nat}{x y:BW}:(x.den c<y.den c→EJ c (br x y true 1))∧(¬x.den c<y.den c→EJ c (br x y false 1)):=
 ⟨fun h=>.one (by rw[Jz];omega),fun h=>.one (by rw[Jz];omega)⟩
theorem cK{c:List Nat}{x y:BW}:(x.den c=y.den c→EJ c (br x y true 2))∧(¬x.den c=y.den c→EJ c (br x y false 2)):=
 ⟨fun h=>.prod (.one (by rw[Jz];omega)) (.one (by rw[Jz];omega)),fun h=>by
  rcases Int.lt_or_gt_of_ne h with h|h
  ·exact .l (.one (by rw[Jz];omega))
  ·exact .r (.one (by rw[Jz];omega))⟩
theorem FE.br_ok(c:List Nat)(p:FE):(p.den c→EJ c (p.br true))∧(¬p.den c→EJ c (p.br false)):=by
 induction p with
 |l x y=>have:=@Z8 c x.lin y.lin;rw[Lb,Lb,iw]at this;exact this
 |t x y=>have:=@az c x.lin y.lin;rw[Lb,Lb,Int.ofNat_lt]at this;exact this
 |e x y=>have:=@cK c x.lin y.lin;rw[Lb,Lb,Int.ofNat_inj]at this;exact this
 |L x y=>have:=@Z8 c x.lin y.lin;rw[Nb,Nb]at this;exact this
 |T x y=>have:=@az c x.lin y.lin;rw[Nb,Nb]at this;exact this
 |E x y=>have:=@cK c x.lin y.lin;rw[Nb,Nb]at this;exact this
 |o p h=>exact⟨h.2,fun n=>h.1 (Classical.not_not.mp n)⟩
 |d p q h k=>exact⟨fun x=>.prod (h.1 x.1) (k.1 x.2),fun n=>(Classical.not_and_iff_not_or_not.mp n).elim (fun x=>.l (h.2 x)) fun x=>.r (k.2 x)⟩
 |r p q h k=>exact⟨fun x=>x.elim (fun x=>.l (h.1 x)) fun x=>.r (k.1 x),fun n=>.prod (h.2 fun x=>n (.inl x)) (k.2 fun x=>n (.inr x))⟩
 |i p q h k=>exact⟨fun x=>(ix (p.den c)).elim (fun y=>.r (k.1 (x y))) fun y=>.l (h.2 y),fun n=>.prod (h.1 (Te fun m=>n fun a=>(m a).elim)) (k.2 fun m=>n fun _=>m)⟩
 |w p q h k=>exact⟨fun x=>(ix (p.den c)).elim (fun y=>.l (.prod (h.1 y) (k.1 (x.1 y)))) fun y=>.r (.prod (h.2 y) (k.2 fun z=>y (x.2 z))),
   fun n=>(ix (p.den c)).elim (fun y=>.l (.prod (h.1 y) (k.2 fun z=>n ⟨fun _=>z,fun _=>y⟩))) fun y=>.r (.prod (h.2 y) (k.1 (Te fun m=>n ⟨fun a=>(y a).elim,fun a=>(m a).elim⟩)))⟩
 |f=>exact⟨fun h=>h.elim,fun _=>⟨[],Ap.mpr rfl,fun _ h=>nomatch h⟩⟩
def Fx(l:BW):Int:=match l.cs with|[]=>0|a::_=>a
def eE(p q:BW):BW:=(p.mul (-(Fx q))).add (q.mul (Fx p))
def ce(l:BW):BW:=⟨l.k,l.cs.tail⟩
def dX(l:List BW):List BW:=
 let z:=(l.filter fun x=>Fx x==0);let p:=(l.filter fun x=>decide (0<Fx x));let n:=(l.filter fun x=>decide (Fx x<0))
 (z++p.flatMap fun x=>n.map fun y=>eE x y).map ce
def bad:Nat→List BW→Bool
 |0,l=>l.any fun x=>decide (x.k<0)
 |n+1,l=>bad n (dX l)
theorem g7{x:Nat}{c:List Nat}{l:BW}(h:Fx l=0):(ce l).den c=l.den (x::c):=by
 obtain⟨k,cs⟩:=l;cases cs with
 |nil=>show k+ev c []=k+0;rw[KE]
 |cons a m=>
  have h:a=0:=h;subst h;show k+ev c m=k+(0*(x:Int)+ev c m);rw[Int.zero_mul,Jn]
theorem sh(a b:BW):Fx (a.add b)=Fx a+Fx b:=by
 obtain⟨k,cs⟩:=a;obtain⟨j,ds⟩:=b;cases cs with
 |nil=>exact(Jn _).symm
 |cons x xs=>cases ds with
  |nil=>exact(Nh _).symm
  |cons y ys=>rfl
theorem bX(k:Int)(a:BW):Fx (a.mul k)=k*Fx a:=by
 obtain⟨j,cs⟩:=a;cases cs with
 |nil=>exact(iu _).symm
 |cons x xs=>rfl
theorem Zam{x:Nat}{c:List Nat}{l:List BW}(s:Pt (x::c) l):Pt c (dX l):=by
 intro y hy;obtain⟨z,hz,rfl⟩:=BD.mp hy;rcases CE.mp hz with h|h
 ·obtain⟨h1,h2⟩:=Dn.mp h;rw[g7 (x:=x) (beq_iff_eq.mp h2)];exact s z h1
 ·obtain⟨p,hp,h⟩:=List.mem_flatMap.mp h;obtain⟨q,hq,rfl⟩:=BD.mp h;obtain⟨p1,m⟩:=Dn.mp hp;obtain⟨q1,n⟩:=Dn.mp hq;have m:=of_decide_eq_true m;have n:=of_decide_eq_true n;have e:Fx (eE p q)=0:=by
   show Fx (BW.add _ _)=0;rw[sh,bX,bX,Int.neg_mul,Int.mul_comm (Fx p)];omega
  rw[g7 (x:=x) e];show 0≤BW.den _ (BW.add _ _);rw[NZ,NM,NM];exact Int.add_nonneg (Int.mul_nonneg (by omega) (s p p1)) (Int.mul_nonneg (by omega) (s q q1))
theorem oZ{n:Nat}:∀{c:List Nat}{l:List BW},c.length=n→Pt c l→bad n l=true→False:=by
 induction n with
 |zero=>
  intro c l m s h;obtain⟨x,hx,h⟩:=List.any_eq_true.mp h;have h:=of_decide_eq_true h;have t:=s x hx;obtain rfl:=Lp m;have:x.den []=x.k+0:=rfl;omega
 |succ n ih=>
  intro c l m s h;cases c with
  |nil=>cases m
  |cons x c=>exact ih (YD m) (Zam s) h
def units:Nat→Nat→List BW
 |0,_=>[]
 |n+1,i=>⟨0,Kx i⟩::units n (i+1)
theorem tE(c:List Nat):∀n i,Pt c (units n i):=by
 intro n
 induction n with
 |zero=>intro i x h;cases h
 |succ n m=>
  intro i x h;rcases A7.mp h with rfl|h
  ·show 0≤0+ev c (Kx i);rw[Za];omega
  ·exact m _ x h
def FE.ok(p:FE)(n:Nat):Bool:=(p.br false).all fun l=>bad n (units n 0++l)
theorem FR(c:List Nat)(p:FE)(h:p.ok c.length=true):p.den c:=Te fun n=>by
 obtain⟨l,hl,s⟩:=(p.br_ok c).2 n;exact oZ rfl (fun x m=>(CE.mp m).elim (tE c _ _ x) (s x)) (Fo.mp h l hl)
abbrev NE.p:NE:=.v 0
abbrev NE.q:NE:=.v 1
abbrev NE.r:NE:=.v 2
abbrev NE.s:NE:=.v 3
abbrev NE.t:NE:=.v 4
abbrev NE.u:NE:=.v 5
abbrev NE.z:NE:=.v 6
theorem CZ{p:FE}(h:p.ok 0=true):p.den []:=FR _ p h
theorem A6{p:FE}(h:p.ok 1=true){a:Nat}:p.den [a]:=FR _ p h
theorem Al{p:FE}(h:p.ok 2=true){a b:Nat}:p.den [a,b]:=FR _ p h
theorem BS{p:FE}(h:p.ok 3=true){a b c:Nat}:p.den [a,b,c]:=FR _ p h
theorem Cf{p:FE}(h:p.ok 4=true){a b c d:Nat}:p.den [a,b,c,d]:=FR _ p h
theorem Hi{p:FE}(h:p.ok 5=true){a b c d e:Nat}:p.den [a,b,c,d,e]:=FR _ p h
theorem Zi{p:FE}(h:p.ok 6=true){a b c d e f:Nat}:p.den [a,b,c,d,e,f]:=FR _ p h
theorem xP{p:FE}(h:p.ok 7=true){a b c d e f g:Nat}:p.den [a,b,c,d,e,f,g]:=FR _ p h
theorem Kb{c:List Nat}{F:FE}(P:FE)(h:(FE.i P F).ok c.length=true)(x:P.den c):F.den c:=FR c _ h x
theorem Zeh{c:List Nat}{F:FE}(P Q:FE)(h:(FE.i P (.i Q F)).ok c.length=true)(x:P.den c)(y:Q.den c):F.den c:=FR c _ h x y
theorem gG(a b:Nat):(b≤a∧a-b+b=a)∨(a≤b∧a-b=0):=(Ni b a).elim (fun h=>.inl ⟨h,Nat.sub_add_cancel h⟩) fun h=>.inr ⟨h,Nat.sub_eq_zero_of_le h⟩
theorem wv(a b:Nat):(a≤b∧min a b=a)∨(b≤a∧min a b=b):=(Ni a b).elim (fun h=>.inl ⟨h,Tf h⟩) fun h=>.inr ⟨h,Tg h⟩
theorem qS(a b:Nat):(a≤b∧max a b=b)∨(b≤a∧max a b=a):=(Ni a b).elim (fun h=>.inl ⟨h,Th h⟩) fun h=>.inr ⟨h,Ti h⟩
theorem wT(a:Nat):2*(a / 2)≤a∧a≤2*(a / 2)+1:=⟨Nat.mul_div_le a 2,Nat.le_of_lt_succ (Nat.lt_mul_div_succ a (show 0<2 by decide))⟩
theorem Q7(a:Int):(0≤a∧(a.natAbs:Int)=a)∨(a≤0∧(a.natAbs:Int)=-a):=(Int.le_total 0 a).elim (fun h=>.inl ⟨h,Int.natAbs_of_nonneg h⟩) fun h=>.inr ⟨h,Int.ofNat_natAbs_of_nonpos h⟩
theorem Pd(a:Int):(0≤a∧(a.toNat:Int)=a)∨(a≤0∧a.toNat=0):=(Int.le_total 0 a).elim (fun h=>.inl ⟨h,YE h⟩) fun h=>.inr ⟨h,Int.toNat_of_nonpos h⟩
theorem Sw{a:Int}(h:a.natAbs<1000000):-1000000<a∧a<1000000:=by omega
theorem pd{a b:Int}(h0:a.natAbs<(1000000:Nat))(n:b.natAbs<(1000000:Nat)):((((-9223372036854775808:Int)≤a∧a<(9223372036854775808:Int))∧(-9223372036854775808:Int)≤b∧b<(9223372036854775808:Int))∧(-9223372036854775808:Int)≤EO (b-a) (0:Int)∧EO (b-a) (0:Int)<(9223372036854775808:Int))∧(EO (b-a) (0:Int)=(0:Int)∨(-9223372036854775808:Int)≤b∧b<(9223372036854775808:Int)):=
 have f {a:Int} (h:a.natAbs<1000000):(-9223372036854775808:Int)≤a∧a<(9223372036854775808:Int):=⟨YF (by decide) (iy (Sw h).1),Int.lt_of_lt_of_le (Sw h).2 (by decide)⟩;have m:EO (b-a) (0:Int)<(9223372036854775808:Int):=Int.max_lt.mpr ⟨iz (Int.sub_lt_sub (Sw n).2 (Sw h0).1) (by decide),by decide⟩
 ⟨⟨⟨f h0,f n⟩,YF (by decide) (Int.le_max_right ..),m⟩,.inr (f n)⟩
abbrev IE.j(x:IE):IE:=.a x (.n 1)
abbrev NE.j(x:NE):NE:=.a x (.n 1)
theorem O(p:FE)(n:Nat)(h:p.ok n=true:=by kernel_rfl):p.ok n=true:=h
abbrev sb(x y z:NE):FE:=.r (.d (.l y x) (.e (.a z y) x)) (.d (.l x y) (.e z (.n 0)))
abbrev mn(x y z:NE):FE:=.r (.d (.l x y) (.e z x)) (.d (.l y x) (.e z y))
abbrev mx(x y z:NE):FE:=.r (.d (.l x y) (.e z y)) (.d (.l y x) (.e z x))
theorem Xv{c:List Nat}(x y z:NE)(e:z.den c=x.den c-y.den c):(Internal.sb x y z).den c:=by
 show _∧_=_∨_∧_=_;show _∧z.den c+_=_∨_∧z.den c=_;rw[e];exact gG _ _
theorem im{c:List Nat}(x y z:NE)(e:z.den c=min (x.den c) (y.den c)):(Internal.mn x y z).den c:=by
 show _∧z.den c=_∨_∧z.den c=_;rw[e];exact wv _ _
theorem iI{c:List Nat}(x y z:NE)(e:z.den c=max (x.den c) (y.den c)):(Internal.mx x y z).den c:=by
 show _∧z.den c=_∨_∧z.den c=_;rw[e];exact qS _ _
theorem oS{c:List Nat}{F:FE}(x y z:NE)(h:(FE.i (Internal.sb x y z) F).ok c.length=true:=by kernel_rfl)(e:z.den c=x.den c-y.den c:=by exact rfl):F.den c:=FR c _ h (Xv x y z e)
theorem oI{c:List Nat}{F:FE}(x y z:NE)(h:(FE.i (Internal.mn x y z) F).ok c.length=true:=by kernel_rfl)(e:z.den c=min (x.den c) (y.den c):=by exact rfl):F.den c:=FR c _ h (im x y z e)
theorem oA{c:List Nat}{F:FE}(x y z:NE)(h:(FE.i (Internal.mx x y z) F).ok c.length=true:=by kernel_rfl)(e:z.den c=max (x.den c) (y.den c):=by exact rfl):F.den c:=FR c _ h (iI x y z e)
theorem oM{c:List Nat}{F:FE}(x y z u:NE)(h:(FE.i (Internal.mn x y z) (.i (Internal.mx x y u) F)).ok c.length=true:=by kernel_rfl)(e:z.den c=min (x.den c) (y.den c):=by exact rfl)(f:u.den c=max (x.den c) (y.den c):=by exact rfl):F.den c:=FR c _ h (im x y z e) (iI x y u f)
theorem oT{c:List Nat}{F:FE}(x y z a b d:NE)(h:(FE.i (Internal.sb x y z) (.i (Internal.sb a b d) F)).ok c.length=true:=by kernel_rfl)(e:z.den c=x.den c-y.den c:=by exact rfl)(f:d.den c=a.den c-b.den c:=by exact rfl):F.den c:=FR c _ h (Xv x y z e) (Xv a b d f)
theorem oD{c:List Nat}{F:FE}(x z:NE)(h:(FE.i (.d (.l (.m 2 z) x) (.l x (.a (.m 2 z) (.n 1)))) F).ok c.length=true:=by kernel_rfl)(e:z.den c=x.den c / 2:=by exact rfl):F.den c:=FR c _ h (by show 2*z.den c≤_∧_≤2*z.den c+1;rw[e];exact wT _)
def o0:=O (.L (.n 0) (.c .p)) 1
def o1:=O (.L (.n 0) (.n 0)) 0
def o2:=O (.T (.n 0) (.n 1000000)) 0
def o4:=O (.i (.l .p (.n 60)) (.i (.t .q .p) (.T (.c .q) (.n 1000000)))) 2
def o5:=O (.i (.l (.a .p (.j .q)) (.n 14)) (.l (.a .p .q) (.n 14))) 2
theorem o6{a b c:Nat}:FE.den [a,b,c,b-1] (.i (.t .p (.a .q .r)) (.t .p (.a .s (.j .r)))):=oS .q (.n 1) .s
def o7:=O (.i (.l .p (.n 1000)) (.i (.t .q .p) (.T (.c .q) (.n 1000000)))) 2
theorem o8{a b c:Nat}:FE.den [a,b,c,b-1] (.i (.t .p (.a .q .r)) (.i (.l .r .p) (.t .s .q))):=oS .q (.n 1) .s
def o9:=O (.i (.l (.a .p .q) (.n 14)) (.i (.l .r (.n 8)) (.l (.a .p .r) (.n 40)))) 3
def OR:=O (.i (.l (.a .p (.j .q)) (.n 14)) (.l .p (.n 40))) 2
theorem Qq{a:Nat}:FE.den [a,(↑a:Int).natAbs] (.i (.t .p (.n 1000000)) (.t .q (.n 1000000))):=Kb (.r (.d (.L (.n 0) (.c .p)) (.E (.c .q) (.c .p))) (.d (.L (.c .p) (.n 0)) (.E (.c .q) (.g (.c .p))))) (by kernel_rfl) (Q7 ((↑a:Int)))
def RN:=O (.i (.l .p (.n 1000)) (.l (.a (.n 1) .p) (.n 100000))) 1
def Qn:=O (.i (.o (.e .p .q)) (.o (.E (.c .p) (.c .q)))) 2
def Se:=O (.i (.l (.a .p .q) (.n 14)) (.l .p (.n 40))) 2
def Wk:=O (.i (.l (.a .p .q) (.n 100000)) (.i (.e .r .p) (.i (.e .s .q) (.l (.a .r .s) (.n 16777216))))) 4
def XX:=O (.i (.t .p .q) (.T (.c .p) (.c .q))) 2
theorem bL{a b:Nat}:Do a b=Do a b:=rfl
theorem WL{a:Nat}:a≤a:=A9 a
def Wl:=O (.i (.t .p (.j .q)) (.i (.o (.e .p .q)) (.t .p .q))) 2
def XA:=O (.i (.l .p .q) (.i (.l (.a .r .q) (.n 14)) (.l (.a .r .p) (.n 14)))) 3
def Wg:=O (.i (.l (.a .p (.j .q)) (.n 14)) (.l (.a (.j .p) .q) (.n 14))) 2
def Wa:=O (.i (.d (.l (.a .p (.j .q)) (.n 14)) (.l (.a .r (.j .q)) (.n 14))) (.d (.l (.a .p .q) (.n 14)) (.l (.a .r .q) (.n 14)))) 3
def dO:=O (.i (.t (.a .p (.m 2 (.j .q))) .r) (.t (.a (.j .p) (.m 2 .q)) .r)) 3
theorem ZA:FE.den [Int.natAbs (0:Int)] (.t .p (.n 1000000)):=Kb (.r (.d (.L (.n 0) (.n 0)) (.E (.c .p) (.n 0))) (.d (.L (.n 0) (.n 0)) (.E (.c .p) (.g (.n 0))))) (by kernel_rfl) (Q7 ((0:Int)))
def ew:=O (.l .p (.j (.j .p))) 1
theorem vb{a b:Nat}(m:a≤b):a≤b:=m
theorem ai{a b c:Nat}:FE.den [a,b,c,a-1] (.i (.e (.a .p .q) .r) (.i (.t .q .r) (.t .s .p))):=oS .p (.n 1) .s
theorem ao{a b c:Nat}:FE.den [a,b,c,a-1] (.i (.e (.a .p .q) .r) (.i (.t .q .r) (.e (.a .s (.j .q)) .r))):=oS .p (.n 1) .s
def fB:=O (.i (.t .p .q) (.i (.l .r .p) (.i (.o (.e .r .p)) (.t .r .p)))) 3
def aL:=O (.i (.L (.c .p) (.c .q)) (.l .p .q)) 2
def Zn:=O (.o (.T (.c .p) (.n 0))) 1
def fJ:=O (.i (.e (.n 0) .p) (.i (.e .p (.j .q)) .f)) 2
def cf:=O (.w (.E (.c .p) (.c .q)) (.e .p .q)) 2
def Zr:=O (.w (.o (.E (.c .p) (.c .q))) (.o (.e .p .q))) 2
def dD:=O (.i (.o (.e .p .q)) (.i (.o (.t .p .q)) (.l (.j .q) .p))) 2
def Zl:=O (.i (.e .p .q) (.E (.c .p) (.c .q))) 2
def iC:=O (.i (.l .p (.a (.j .q) .r)) (.l .p (.a .q (.j .r)))) 3
def gj:=O (.i (.o (.t .p .q)) (.i (.t .p (.j .q)) (.e .p .q))) 2
def Z6:=O (.L (.n 0) (.n 1)) 0
def aX:=O (.T (.n 1) (.n 1000000)) 0
theorem zY{a b c:Nat}:FE.den [a,b,c,b-1] (.i (.t .p (.a .q .r)) (.i (.t .r .p) (.t .s .q))):=oS .q (.n 1) .s
def fw:=O (.i (.t .p .q) (.d (.L (.n 0) (.c .p)) (.T (.c .p) (.c .q)))) 2
def Zz:=O (.i (.t .p .q) (.i (.e .q .r) (.t .p .r))) 3
def cS:=O (.w (.T (.n 1) (.c .p)) (.t (.n 1) .p)) 1
def gm:=O (.i (.t (.n 0) .p) (.T (.n 0) (.c .p))) 1
def bu:=O (.t (.n 0) (.n 1021)) 0
def eZ:=O (.i (.t .p (.n 1021)) (.T (.c .p) (.n 1021))) 1
def cO:=O (.i (.l .p .q) (.i (.l .r .s) (.l (.a .p .r) (.a .q .s)))) 4
theorem ZS{a b c:Nat}:FE.den [a,b,c,Do b c,EO b c] (.i (.e .p .t) (.l .s .p)):=oM .q .r .s .t
theorem gt{a b:Nat}:FE.den [a,b,Do a b,EO a b] (.i (.o (.e .p .q)) (.t .r .s)):=oM .p .q .r .s
def dw:=O (.i (.t .p (.n 2)) (.T (.c .p) (.n 1000000))) 1
def cQ:=O (.o (.d (.L (.n 0) (.c .p)) (.T (.c .p) (.c .p)))) 1
theorem cr{a:Nat}:FE.den [a,(↑a:Int).natAbs] (.i (.l .p (.n 60)) (.t .q (.n 1000))):=Kb (.r (.d (.L (.n 0) (.c .p)) (.E (.c .q) (.c .p))) (.d (.L (.c .p) (.n 0)) (.E (.c .q) (.g (.c .p))))) (by kernel_rfl) (Q7 ((↑a:Int)))
def dc:=O (.o (.d (.L (.n 0) (.g (.n 1))) (.T (.g (.n 1)) (.c .p)))) 1
def Y1:=O (.i (.l (.a .p .q) (.n 20)) (.l .p (.n 100000))) 2
def dC:=O (.i (.o (.t .p .q)) (.l .q .p)) 2
def aM:=O (.i (.e .p (.a (.a .q .r) .s)) (.e (.j .p) (.a (.a .q (.j .r)) .s))) 4
def ej:=O (.i (.t .p .p) .f) 1
def gC:=O (.i (.l .p (.n 40)) (.i (.l .q .r) (.i (.l .r (.n 14)) (.i (.l .s (.a .q .p)) (.l .s (.n 900)))))) 4
theorem db{a b:Nat}:FE.den [a,b,Do a b,EO a b] (.r (.d (.e .r .p) (.e .s .q)) (.d (.e .r .q) (.e .s .p))):=oM .p .q .r .s
def cT:=O (.i (.e .p (.j .q)) (.i (.t .r .p) (.i (.o (.e .r .q)) (.t .r .q)))) 3
def Zb:=O (.i (.l (.a .p .q) (.n 14)) (.l .p (.n 900))) 2
def cu:=O (.l (.n 800) (.n 1000)) 0
def ZZ:=O (.i (.l (.a .p (.j .q)) (.n 14)) (.t .p (.n 14))) 2
def o68:=O (.i (.l .p .q) (.i (.t (.a .r (.m 2 .q)) .s) (.t (.a .r (.m 2 .p)) .s))) 4
def yN:=O (.i (.l .p .q) (.i (.t (.a .r (.m 16 .q)) .s) (.t (.a .r (.m 16 .p)) .s))) 4
def tA:=O (.i (.t (.a .p (.m 2 .q)) .r) (.t .p .r)) 3
def wG:=O (.i (.t (.n 0) .p) (.i (.t (.a .q (.m 16 .p)) .r) (.t (.j .q) .r))) 3
def mD:=O (.i (.t (.a .p (.m 16 (.j .q))) .r) (.t (.a (.a .p (.n 3)) (.m 16 .q)) .r)) 3
def z8:=O (.i (.t .p .q) (.T (.n 0) (.s (.c .q) (.c .p)))) 2
theorem kW{b:Nat}{a:Int}:a+(↑(b+(1:Nat)):Int)=a+(↑b:Int)+(1:Int):=(ir a b 1).symm
def zj:=O (.E (.s (.c .p) (.c (.j .q))) (.s (.s (.c .p) (.c .q)) (.n 1))) 2
def my:=O (.i (.o (.t .p .q)) (.L (.s (.c .q) (.c .p)) (.n 0))) 2
def uT:=O (.E (.c (.j .p)) (.j (.c .p))) 1
theorem qJ{a b:Int}(m:a.natAbs<(1000000:Nat))(n:b.natAbs<(1000000:Nat)):((((-9223372036854775808:Int)≤a∧a<(9223372036854775808:Int))∧(-9223372036854775808:Int)≤b∧b<(9223372036854775808:Int))∧(-9223372036854775808:Int)≤EO (b-a) (0:Int)∧EO (b-a) (0:Int)<(9223372036854775808:Int))∧(EO (b-a) (0:Int)=(0:Int)∨(-9223372036854775808:Int)≤b∧b<(9223372036854775808:Int)):=pd m n
theorem tJ{a:Int}:a+(↑(0:Nat):Int)=a:=Nh a
def o82:=O (.E (.s (.c .p) (.c (.n 0))) (.c .p)) 1
theorem o83{a:Nat}:FE.den [a,((↑a:Int)-(0:Int)).toNat] (.e .q .p):=Kb (.r (.d (.L (.n 0) (.s (.c .p) (.n 0))) (.E (.c .q) (.s (.c .p) (.n 0)))) (.d (.L (.s (.c .p) (.n 0)) (.n 0)) (.e .q (.n 0)))) (by kernel_rfl) (Pd ((↑a:Int)-(0:Int)))
theorem kO{a b:Nat}:FE.den [a,b,((↑a:Int)-(↑b:Int)).toNat,a-b] (.e .r .s):=Zeh (.r (.d (.L (.n 0) (.s (.c .p) (.c .q))) (.E (.c .r) (.s (.c .p) (.c .q)))) (.d (.L (.s (.c .p) (.c .q)) (.n 0)) (.e .r (.n 0)))) (.r (.d (.l .q .p) (.e (.a .s .q) .p)) (.d (.l .p .q) (.e .s (.n 0)))) (by kernel_rfl) (Pd ((↑a:Int)-(↑b:Int))) (gG (a) (b))
def zh:=O (.i (.l (.a .p .q) (.n 100000)) (.i (.e .r .p) (.l .r (.n 16777216)))) 3
def uM:=O (.i (.l (.a .p .q) (.n 100000)) (.i (.e .r .p) (.i (.e .s .q) (.l (.a .r .s) (.n 16777217))))) 4
def yg:=O (.i (.t .p (.n 1000000)) (.T (.c .p) (.n 9223372036854775808))) 1
def xX:=O (.i (.T (.c .p) (.c .q)) (.t .p .q)) 2
def po:=O (.i (.t .p .q) (.i (.e .r .q) (.T (.c .p) (.c .r)))) 3
def o91:=O (.i (.l (.a .p (.j .q)) .r) (.l (.a (.j .p) .q) .r)) 3
def qI:=O (.i (.t .p .q) (.i (.l .q .p) (.l .r .p))) 3
theorem lD{a b:Nat}:FE.den [a,b,b-a,b-(a+1)] (.i (.t .p .q) (.e .r (.j .s))):=oT .q .p .r .q (.j .p) .s
def zH:=O (.i (.l (.a .p (.j .q)) .r) (.i (.o (.t .p .s)) (.d (.l .s .p) (.t .p .r)))) 4
theorem we{a b:Nat}:FE.den [a,b,b-(a+1)] (.i (.o (.t .p .q)) (.e .r (.n 0))):=oS .q (.j .p) .r
theorem vB{a b:Nat}:FE.den [a,b,b-a] (.i (.o (.t .p .q)) (.e .r (.n 0))):=oS .q .p .r
theorem yK{a b c:Nat}:FE.den [a,b,c,Do c a] (.i (.l .p .q) (.l .s (.j .q))):=oI .r .p .s
theorem sj{a:Nat}:FE.den [a,((↑a:Int)-(0:Int)).toNat] (.E (.c .q) (.c .p)):=Kb (.r (.d (.L (.n 0) (.s (.c .p) (.n 0))) (.E (.c .q) (.s (.c .p) (.n 0)))) (.d (.L (.s (.c .p) (.n 0)) (.n 0)) (.e .q (.n 0)))) (by kernel_rfl) (Pd ((↑a:Int)-(0:Int)))
theorem xz{a:Nat}:(0:Int)+(↑a:Int)*(1:Int)=(↑a:Int):=(Jn _).trans (Int.mul_one _)
def mJ:=O (.i (.t (.a .p (.m 16 (.j .q))) .r) (.t (.a (.j .p) (.m 16 .q)) .r)) 3
theorem qz{a b c:Nat}:FE.den [a,b,c,(c+a) / 2] (.i (.l .p .q) (.i (.t .r .p) (.t .s .q))):=oD (.a .r .p) .s
theorem lT{a b c:Nat}:FE.den [a,b,c,(b+a) / 2] (.i (.l .p (.a .q (.j .r))) (.l .p (.a (.j .s) .r))):=oD (.a .q .p) .s
theorem Zb2{a b:Nat}:FE.den [a,b,(a+b) / 2] (.i (.t .p .q) (.l (.j .r) .q)):=oD (.a .p .q) .r
theorem zN{a b c:Nat}:FE.den [a,b,c,(b+c) / 2] (.i (.t .p (.j .s)) (.i (.o (.e .p .s)) (.t .p .s))):=oD (.a .q .r) .s
theorem yk{a b c:Nat}:FE.den [a,b,c,(b+a) / 2] (.i (.l .p (.a .q (.j .r))) (.l .s (.a .q .r))):=oD (.a .q .p) .s
theorem nY{a b:Nat}:FE.den [a,b,(a+b) / 2] (.i (.t .p .q) (.l .p .r)):=oD (.a .p .q) .r
theorem Zag{a b c:Nat}:FE.den [a,b,c,(a+b) / 2] (.i (.l .s .r) (.i (.o (.e .r .s)) (.t .s .r))):=oD (.a .p .q) .s
def Zbt:=O (.i (.l .p .q) (.i (.o (.t .p .q)) (.e .p .q))) 2
def rc:=O (.l .p (.a (.n 0) .p)) 1
def Zbx:=O (.i (.t (.a .p (.j .q)) .r) (.t .p .r)) 3
def uv:=O (.t .p (.a .p (.j .q))) 2
def zM:=O (.i (.t .p .q) (.i (.l .r .s) (.i (.t .s .r) .f))) 4
def wK:=O (.i (.l .p .q) (.i (.o (.e .q .p)) (.t .p .q))) 2
theorem xA{a b:Nat}:FE.den [a,b,a-b] (.i (.e .r (.n 0)) (.i (.l .q .p) (.e .q .p))):=oS .p .q .r
theorem pq{a b c:Nat}:FE.den [a,b,c,a-b] (.i (.e .s (.j .r)) (.t .q .p)):=oS .p .q .s
theorem Zbv{a b c d e:Nat}:FE.den [a,b,c,d,e,Do c e] (.i (.t (.j .p) .q) (.i (.t .r .p) (.i (.l .s .u) (.t (.j .s) .q)))):=oI .r .t .u
theorem ki{a b c:Nat}:FE.den [a,b,c,Do b c] (.i (.l .p .s) (.l .p (.j .s))):=oI .q .r .s
theorem wm{a b c:Nat}:FE.den [a,b,c,Do b c] (.i (.l .p .s) (.l (.j .p) (.j .s))):=oI .q .r .s
theorem u5{a b c:Nat}:FE.den [a,b,c,a-(b+1),a-b] (.i (.e .t (.j .r)) (.e .s .r)):=oT .p (.j .q) .s .p .q .t
theorem uZ{a b:Nat}:FE.den [a,b,a-1] (.i (.l .p (.j .q)) (.l .r .q)):=oS .p (.n 1) .r
def xJ:=O (.i (.l .p .q) (.i (.e .p (.j .r)) (.t (.n 0) .q))) 3
def qv:=O (.i (.e .p (.j .q)) (.t (.n 0) .p)) 2
def sy:=O (.i (.e .p .q) (.i (.t .r .q) (.i (.t (.j .r) .p) (.i (.t .s (.j .t)) (.i (.t .t .s) .f))))) 5
def s6:=O (.i (.t .p (.n 64)) (.i (.l .q .p) (.l .q (.n 63)))) 2
theorem Zat{a b:Int}(m:a≤b∧a≠b):a<b:=Int.lt_iff_le_and_ne.mpr m
theorem lZ{a b c d:Nat}:FE.den [a,b,c,d,Do c b] (.i (.l (.a .p .q) (.n 1000000)) (.i (.e (.a .p .t) .s) (.l .s (.n 1000000)))):=oI .r .q .t
def xr:=O (.l .p (.a .p .q)) 2
def Za4:=O (.i (.t .p .q) (.i (.l .q (.n 1000)) (.T (.c .p) (.n 1000000)))) 2
def Zc2:=O (.i (.t .p .q) (.i (.o (.e .r .p)) (.o (.E (.c .r) (.c .p))))) 3
theorem Zar{a b:Nat}:FE.den [a,b,a-b] (.i (.o (.e .p .q)) (.i (.o (.t .p .q)) (.o (.e .r (.n 0))))):=oS .p .q .r
theorem qE{a b c d:Nat}:FE.den [a,b,c,d,EO a b,Do a b] (.i (.e .u .r) (.i (.e .t .s) (.i (.o (.e .p .q)) (.t .r .s)))):=oM .p .q .u .t
theorem yM{a b c d e f:Nat}:FE.den [a,b,c,d,e,f,EO d e] (.i (.t .p .q) (.i (.t .r .q) (.i (.l .s .p) (.i (.l .t .r) (.i (.e .z .u) (.t .u .q)))))):=oA .s .t .z
def Zaz:=O (.i (.t .p .q) (.o (.E (.c .p) (.c .q)))) 2
def sV:=O (.i (.l .p (.n 1000)) (.i (.t .q .r) (.i (.t .r .p) (.T (.c .q) (.n 1000000))))) 3
def n7:=O (.i (.l .p (.n 1000)) (.i (.l .q (.n 1000)) (.l (.a .p .q) (.n 100000)))) 2
def Zbz:=O (.i (.o (.t .p .q)) (.i (.o (.e .p .q)) (.t .q .p))) 2
def rJ:=O (.i (.t .p .q) (.i (.t .q .p) (.e .q .p))) 2
def mO:=O (.i (.t .p .q) (.w (.E (.c .r) (.c .p)) (.e .r .p))) 3
def qi:=O (.T (.c .p) (.j (.c .p))) 1
def zg:=O (.i (.l .p (.n 1000)) (.i (.e .q .p) (.i (.t .r .q) (.T (.c .r) (.n 1000000))))) 3
def pR:=O (.i (.l (.a .p .q) (.n 1000)) (.l .q (.n 1000000))) 2
theorem Zci{a b:Nat}:FE.den [a,b,b+1-b] (.i (.t .p .r) (.e .p (.n 0))):=oS (.j .q) .q .r
def lE:=O (.i (.e .p (.j .q)) (.t .q .p)) 2
def rm:=O (.i (.e .p (.j .q)) (.l .p (.j .q))) 2
theorem wy{a b:Int}(m:a<b)(n:(0:Int)≤a):a.toNat<b.toNat:=(Int.toNat_lt_toNat (Int.lt_of_le_of_lt n m)).mpr m
def xa:=O (.o (.T (.c .p) (.n 0))) 1
theorem ve{a b:Nat}:FE.den [a,b,Do a b,EO a b] (.i (.o (.e .p .q)) (.o (.e .r .s))):=oM .p .q .r .s
def oq:=O (.i (.l .p (.n 500)) (.i (.l .q (.n 40)) (.l (.a .p .q) (.n 100000)))) 2
def mr:=O (.i (.l .p (.n 40)) (.i (.l .q (.n 40)) (.l (.a .p .q) (.n 100000)))) 2
def wV:=O (.i (.l .p (.n 800)) (.l .p (.n 800))) 1
def Zcf:=O (.i (.l .p (.n 800)) (.l .p (.n 801))) 1
def rz:=O (.i (.l .p (.a .q .r)) (.l .p (.a .q (.j .r)))) 3
def Zc4:=O (.i (.e .p .q) (.o (.T (.c .p) (.c .q)))) 2
theorem kJ{a b c d:Nat}:FE.den [a,b,c,d,Do d a] (.i (.l .p (.n 2)) (.i (.l .q (.n 40)) (.i (.l .r (.a .q .t)) (.l .r (.n 42))))):=oI .s .p .t
theorem nO{a b:Nat}:FE.den [a,b,a-b] (.i (.o (.t .p .q)) (.i (.e .r (.n 0)) (.e .p .q))):=oS .p .q .r
def xR:=O (.i (.o (.e .p .q)) (.o (.E (.c .p) (.c .q)))) 2
theorem tg{a b c:Nat}:FE.den [a,b,c,Do b c] (.i (.t .p .s) (.t .p .r)):=oI .q .r .s
theorem wi{a b c:Nat}:FE.den [a,b,c,Do b c] (.i (.t .p .s) (.t .p .q)):=oI .q .r .s
def yt:=O (.i (.e .p (.j .q)) (.o (.E (.c .p) (.n 0)))) 2
def kj:=O (.i (.e .p (.a .q (.n 0))) (.o (.T (.c .q) (.c .p)))) 2
def nz:=O (.i (.e .p (.a .q (.j .r))) (.T (.c .q) (.c .p))) 3
def tB:=O (.e (.a (.n 0) .p) .p) 1
def n8:=O (.i (.l .p (.n 1000)) (.i (.l .q (.n 5)) (.l (.a .p .q) (.n 16777216)))) 2
def Zbi:=O (.e (.a (.n 2) (.m 2 .p)) (.m 2 (.j .p))) 1
def wh:=O (.i (.l .p (.n 1000)) (.l (.m 2 .p) (.n 1000000))) 1
def nA:=O (.i (.l (.a .p .q) (.n 900)) (.l .p (.n 100000))) 2
def tq:=O (.i (.l (.a .p .q) (.n 900)) (.l .p (.n 99998))) 2
def oP:=O (.i (.l .p (.n 800)) (.l .p (.n 100000))) 1
def yU:=O (.i (.e (.a .p (.j .q)) .r) (.t .p .r)) 3
theorem zb{a b c:Nat}:FE.den [a,b,c,a-1] (.i (.e (.a .p (.j .q)) .r) (.t .s .r)):=oS .p (.n 1) .s
theorem sv{a b c:Nat}:FE.den [a,b,c,a-1] (.i (.l (.n 1) .p) (.i (.e (.a .p (.j .q)) .r) (.d (.t .p .r) (.d (.t .s .r) (.o (.e .p .s)))))):=oS .p (.n 1) .s
theorem sR{a:Nat}:FE.den [a,a-1] (.o (.t .p .q)):=oS .p (.n 1) .q
def sC:=O (.i (.e (.a .p (.j .q)) .r) (.e (.a (.j .p) .q) .r)) 3
theorem lC{a:Nat}:FE.den [a,a-1] (.i (.l (.n 2) .p) (.e (.a (.n 1) .q) .p)):=oS .p (.n 1) .q
def xQ:=O (.i (.o (.e .p .q)) (.i (.o (.t .p .q)) (.t .q .p))) 2
theorem Zbj{a b c d:Nat}{e f:Int}(h0:a<b)(h1:c<b)(h2:b=d)(m:e<f)(n:f<e):a<c:=(Int.lt_irrefl _ (iz m n)).elim
theorem zq{a b c d:Nat}{e f:Int}(n:a<b)(h1:b=c)(h2:d<b)(m:e<f):e≠f:=Int.ne_of_lt m
theorem xg{a b c d:Nat}{e f:Int}(n:a<b)(h1:b=c)(h2:d<b)(m:e<f):f≠e:=(Int.ne_of_lt m).symm
def kr:=O (.i (.l .p (.j .q)) (.l (.a .p .r) (.a .q (.j .r)))) 3
theorem u7{b:Nat}{a:Int}(m:(0:Int)≤a)(n:a<(↑b:Int)):a.toNat<b:=(Int.toNat_lt m).mpr n
theorem xp{a:Int}(m:(0:Int)≤a):a=(↑a.toNat:Int):=(YE m).symm
def Zak:=O (.i (.t (.n 0) .p) (.o (.E (.c .p) (.n 0)))) 1
def w9:=O (.i (.l (.j .p) .q) (.L (.c (.j .p)) (.c .q))) 2
def lP:=O (.L (.n 0) (.s (.c (.j .p)) (.n 1))) 1
def rf:=O (.i (.l .p (.n 1000)) (.i (.l (.j .q) .p) (.T (.s (.c (.j .q)) (.n 1)) (.n 1000000)))) 2
theorem rp{a:Nat}:FE.den [a,((↑(a+(1:Nat)):Int)-(1:Int)).toNat] (.e .q .p):=Kb (.r (.d (.L (.n 0) (.s (.c (.a .p (.n 1))) (.n 1))) (.E (.c .q) (.s (.c (.a .p (.n 1))) (.n 1)))) (.d (.L (.s (.c (.a .p (.n 1))) (.n 1)) (.n 0)) (.e .q (.n 0)))) (by kernel_rfl) (Pd ((↑(a+(1:Nat)):Int)-(1:Int)))
def xw:=O (.i (.l (.j .p) .q) (.t .p .q)) 2
def vI:=O (.i (.o (.l (.j .p) .q)) (.o (.L (.c (.j .p)) (.c .q)))) 2
theorem Zau{a:Nat}:FE.den [a,(↑a:Int).natAbs] (.i (.t .p (.n 1021)) (.t .q (.n 100000))):=Kb (.r (.d (.L (.n 0) (.c .p)) (.E (.c .q) (.c .p))) (.d (.L (.c .p) (.n 0)) (.E (.c .q) (.g (.c .p))))) (by kernel_rfl) (Q7 ((↑a:Int)))
theorem wM{a b:Nat}:FE.den [a,b,Do b a,EO b a] (.i (.o (.e .p .s)) (.e .r .p)):=oM .q .p .r .s
theorem l9{a b:Nat}:FE.den [a,b,Do b a,EO b a] (.i (.e .p .s) (.e .q .r)):=oM .q .p .r .s
theorem rq{a b:Nat}:FE.den [a,b,EO a b] (.i (.o (.e .p .r)) (.i (.o (.e .q .r)) (.e .p .q))):=oA .p .q .r
theorem mq{a b c d:Nat}:FE.den [a,b,c,d,Do c d,EO c d] (.i (.l .p .q) (.i (.e .p .u) (.l .t .q))):=oM .r .s .t .u
theorem rM{a b c:Nat}:FE.den [a,b,c,Do c a] (.i (.t .p .q) (.t .s .q)):=oI .r .p .s
theorem qQ{a b c:Nat}:FE.den [a,b,c,Do b c,EO b c] (.i (.o (.e .p .t)) (.i (.e .p .t) (.e .s .p))):=oM .q .r .s .t
def zu:=O (.e .p .p) 1
def rU:=O (.i (.t .p .q) (.t (.n 0) .q)) 2
theorem sY{a b c:Nat}:FE.den [a,b,c,Do b c,EO b c] (.i (.l .p (.n 0)) (.i (.e .p .t) (.e .s (.n 0)))):=oM .q .r .s .t
def kb:=O (.i (.l .p (.n 0)) (.e .p (.n 0))) 1
def xG:=O (.i (.t .p .q) (.i (.l .r .s) (.t (.a .p .r) (.a .q .s)))) 4
def mH:=O (.i (.l .p .q) (.i (.t .r .s) (.t (.a .p .r) (.a .q .s)))) 4
def pK:=O (.l (.n 0) .p) 1
def Zc1:=O (.i (.l .p (.n 60)) (.t .p (.n 1000000))) 1
def pf:=O (.i (.l .p (.n 900)) (.l .p (.n 100000))) 1
theorem Zcl{a b c:Nat}:FE.den [a,b,c,EO b c] (.i (.e .p .s) (.E (.c .p) (.c .s))):=oA .q .r .s
theorem xk{a b c:Nat}:FE.den [a,b,c,EO b c] (.i (.o (.e .p .s)) (.o (.E (.c .p) (.c .s)))):=oA .q .r .s
def qB:=O (.i (.l .p (.n 100)) (.l (.a (.n 1) .p) (.n 100000))) 1
def xL:=O (.l (.n 1) (.n 2)) 0
def nX:=O (.l (.n 2) (.n 2)) 0
def vZ:=O (.i (.e .p .q) (.i (.l .q (.n 2)) (.l (.a (.n 1) .p) (.n 100000)))) 2
def ug:=O (.i (.t .p .q) (.i (.e .r .s) (.i (.l .r .p) (.i (.e .q .t) (.t .s .t))))) 5
def zD:=O (.i (.t .p (.n 3)) (.i (.l .q .p) (.i (.e .r .q) (.l .r (.n 2))))) 3
def lI:=O (.i (.l .p (.n 100)) (.i (.t .q (.n 3)) (.i (.l .r .q) (.i (.e .s .r) (.l (.a .p .s) (.n 100000)))))) 4
def Zbp:=O (.i (.l .p (.n 100)) (.i (.t .q (.n 3)) (.i (.l .r .q) (.i (.e .s .r) (.l (.a .p .s) (.n 900)))))) 4
def lA:=O (.i (.t .p (.n 3)) (.i (.l .q .p) (.i (.e .r .q) (.l .r (.n 6))))) 3
def va:=O (.w (.e .p .q) (.E (.c .p) (.c .q))) 2
def om:=O (.i (.t .p (.n 3)) (.i (.l .q .p) (.i (.e .r .q) (.l .r (.n 8))))) 3
def pO:=O (.i (.t .p (.n 3)) (.i (.l .q .p) (.i (.e .r .q) (.l .r (.n 799))))) 3
def pD:=O (.i (.t (.n 0) .p) (.d (.L (.n 0) (.n 0)) (.T (.n 0) (.c .p)))) 1
def Zch:=O (.i (.e .p (.n 0)) (.E (.c .p) (.n 0))) 1
def Zbq:=O (.i (.o (.e .p (.n 0))) (.o (.E (.c .p) (.n 0)))) 1
def Zcm:=O (.i (.e .p (.n 2)) (.E (.c .p) (.n 2))) 1
def t8:=O (.T (.g (.n 1)) (.n 0)) 0
def vA:=O (.L (.n 1) (.j (.c .p))) 1
theorem tY{a:Nat}:FE.den [a,((-1:Int)+((↑a:Int)+(1:Int))).toNat] (.e .q .p):=Kb (.r (.d (.L (.n 0) (.a (.g (.n 1)) (.a (.c .p) (.n 1)))) (.E (.c .q) (.a (.g (.n 1)) (.a (.c .p) (.n 1))))) (.d (.L (.a (.g (.n 1)) (.a (.c .p) (.n 1))) (.n 0)) (.e .q (.n 0)))) (by kernel_rfl) (Pd ((-1:Int)+((↑a:Int)+(1:Int))))
def rT:=O (.i (.o (.e .p (.n 2))) (.o (.E (.c .p) (.n 2)))) 1
def Zbk:=O (.i (.e .p (.n 3)) (.E (.c .p) (.n 3))) 1
def Zb3:=O (.i (.o (.e .p (.n 3))) (.o (.E (.c .p) (.n 3)))) 1
def mz:=O (.i (.e .p (.n 1)) (.E (.c .p) (.n 1))) 1
def oG:=O (.i (.o (.e .p (.n 1))) (.o (.E (.c .p) (.n 1)))) 1
def yx:=O (.E (.a (.n 3) (.c .p)) (.c (.a (.n 3) .p))) 1
def mW:=O (.i (.t .p (.n 3)) (.t (.a (.n 3) .p) (.n 1000000))) 1
theorem uu{a b:Nat}:FE.den [a,b,5-b,4-b] (.i (.t .p (.n 3)) (.i (.t .q (.a (.n 3) .p)) (.e .r (.j .s)))):=oT (.n 5) .q .r (.n 4) .q .s
theorem m5{a b:Nat}:FE.den [a,b,5-(a+1),5-a] (.i (.e .s (.j .q)) (.e .r .q)):=oT (.n 5) (.j .p) .r (.n 5) .p .s
def xF:=O (.E (.a (.n 1) (.c .p)) (.c (.a (.n 1) .p))) 1
def sP:=O (.i (.t .p (.n 3)) (.t (.a (.n 1) .p) (.n 1000000))) 1
theorem lr{a b:Nat}:FE.den [a,b,8-b,7-b] (.i (.t .p (.n 3)) (.i (.t .q (.a (.n 1) .p)) (.e .r (.j .s)))):=oT (.n 8) .q .r (.n 7) .q .s
theorem mK{a b:Nat}:FE.den [a,b,8-(a+1),8-a] (.i (.e .s (.j .q)) (.e .r .q)):=oT (.n 8) (.j .p) .r (.n 8) .p .s
theorem yY{a b:Nat}:FE.den [a,b,8-b] (.i (.t .p (.n 3)) (.i (.l .q (.a (.n 1) .p)) (.l (.n 5) .r))):=oS (.n 8) .q .r
theorem vo{a:Nat}:FE.den [a,11-a,10-a] (.i (.t .p (.n 3)) (.e .q (.j .r))):=oT (.n 11) .p .q (.n 10) .p .r
theorem w7{a b:Nat}:FE.den [a,b,11-(a+1),11-a] (.i (.e .s (.j .q)) (.e .r .q)):=oT (.n 11) (.j .p) .r (.n 11) .p .s
theorem wd{a:Nat}:FE.den [a,Do 50 a] (.l .q (.n 1000000)):=oI (.n 50) .p .q
theorem wY{a:Nat}:FE.den [a,Do 50 a] (.l .q (.n 50)):=oI (.n 50) .p .q
def Zbb:=O (.i (.t .p (.n 0)) (.e (.a .q .r) (.a .s .t))) 5
def nw:=O (.e (.a (.a .p .q) .r) (.a (.a .p .r) .q)) 3
def sL:=O (.i (.e (.a .p .q) (.a .r .s)) (.i (.e .t .u) (.e (.a (.a .p .t) .q) (.a (.a .r .u) .s)))) 6
def xS:=O (.i (.e (.a .p .q) (.a .r .s)) (.i (.e (.a .t .u) (.a .p .z)) (.e (.a .t (.a .q .u)) (.a .r (.a .s .z))))) 7
def lH:=O (.i (.t .p (.n 0)) (.l .q .r)) 3
def m6:=O (.l .p (.a .q .p)) 2
def yH:=O (.i (.l .p .q) (.l .p (.a .q .r))) 3
def rA:=O (.e (.a (.a .p .q) (.a .r .s)) (.a (.a .p .r) (.a .q .s))) 4
def rt:=O (.i (.l .p .q) (.i (.l .r (.n 1)) (.i (.l .s (.a .r .p)) (.l .s (.j .q))))) 4
def l7:=O (.i (.l .p .q) (.i (.l .q (.m 2 .r)) (.i (.l .r (.n 14)) (.l .p (.n 28))))) 3
def zV:=O (.i (.e (.a .p .q) .r) (.l .q .r)) 3
def yF:=O (.i (.l (.a .p .q) (.a .r (.m 28 .s))) (.i (.l .s .r) (.i (.l .r (.n 14)) (.l (.a .p .q) (.n 406))))) 4
def kh:=O (.i (.l (.a .p .q) (.n 406)) (.l .p (.n 500))) 2
def vh:=O (.i (.l (.a .p .q) (.n 406)) (.l .q (.n 500))) 2
def sf:=O (.i (.e .p .q) (.i (.t .r .s) (.i (.t .s .q) (.t .r .p)))) 4
def Zb8:=O (.i (.l (.a .p .q) (.a .r (.m 28 .s))) (.i (.l .t (.n 100)) (.i (.l .r (.n 14)) (.i (.l .s .r) (.l (.a (.a .p .t) .r) (.n 800)))))) 5
def uq:=O (.i (.o (.t .p .q)) (.i (.o (.e .p .q)) (.l (.j .q) .p))) 2
def qu:=O (.i (.t .p .q) (.i (.o (.t .r .q)) (.o (.e .r .p)))) 3
def y7:=O (.i (.e .p (.a (.a .q .r) .s)) (.e (.j .p) (.a (.a (.j .q) .r) .s))) 4
def wu:=O (.i (.e (.a .p (.a .q .r)) (.a .s (.a (.a .q .r) (.n 0)))) (.i (.l .s (.m 2 .t)) (.l .p (.m 2 .t)))) 5
def w8:=O (.i (.e (.j .p) (.a .q (.n 0))) (.i (.e (.a .q .r) .s) (.e (.a .p (.j .r)) .s))) 4
def tC:=O (.i (.e (.a .p (.a .q .r)) (.a .s (.a (.a .q .r) (.n 0)))) (.i (.l .s .t) (.l .p .t))) 5
def Zaf:=O (.i (.l .p .q) (.i (.e (.a .r (.n 0)) (.a (.n 0) (.a .s .t))) (.i (.l .r .p) (.l (.a .s .t) .q)))) 5
def sr:=O (.i (.l .p (.n 2)) (.i (.l .q (.m 2 .r)) (.i (.e .s (.n 0)) (.i (.e .t (.a .q .u)) (.i (.l .u .p) (.l (.a .t .s) (.m 2 (.j .r)))))))) 6
def zR:=O (.i (.e (.a .p .q) .r) (.e (.a (.j .p) .q) (.j .r))) 3
def vq:=O (.i (.e .p (.a (.a .q .r) .s)) (.i (.e .s .t) (.e (.j .p) (.a (.a .q .r) (.j .t))))) 5
def yp:=O (.i (.l .p (.n 14)) (.i (.l .q .p) (.i (.l .r .p) (.l (.a .q .r) (.n 1000))))) 3
def kL:=O (.i (.t .p .q) (.o (.e .q .p))) 2
def zJ:=O (.i (.l .p (.n 28)) (.i (.l .q (.n 28)) (.l (.a .p .q) (.n 1000)))) 2
def sN:=O (.i (.t .p .q) (.i (.e .r .p) (.t .r .q))) 3
def Zaa:=O (.i (.e .p .q) (.t .p (.j .q))) 2
def vk:=O (.i (.l .p (.n 40)) (.i (.l .q (.a .r .p)) (.i (.l .r .s) (.i (.l .s (.n 14)) (.l .q (.n 100)))))) 4
def Zad:=O (.i (.l .p (.a .q .r)) (.l (.j .p) (.a .q (.j .r)))) 3
def vz:=O (.i (.l (.a .p .q) (.a .r (.m 28 .s))) (.i (.l .t (.n 28)) (.l (.a .p (.a .q .t)) (.a .r (.m 28 (.j .s)))))) 5
def rE:=O (.i (.l .p (.a .q .r)) (.l (.j .p) (.a (.j .q) (.j .r)))) 3
def pU:=O (.i (.l (.j (.a .p .q)) (.a .r (.m 28 .s))) (.i (.l .s .r) (.i (.l .r (.n 14)) (.l .p (.n 900))))) 4
def qA:=O (.i (.l (.j (.a .p .q)) (.a .r (.m 28 .s))) (.l (.a (.j .p) .q) (.a .r (.m 28 .s)))) 4
def mf:=O (.i (.l .p (.a .q .r)) (.i (.l .r (.n 40)) (.i (.l .s (.n 14)) (.i (.l (.j .q) .s) (.l .p (.n 900)))))) 4
def xN:=O (.i (.l (.j (.a .p .q)) (.a .r (.m 28 .s))) (.i (.l .t (.n 28)) (.l (.a .p (.a .q .t)) (.a .r (.m 28 (.j .s)))))) 5
def wc:=O (.i (.l .p (.a .q .r)) (.l (.j .p) (.a (.j .q) .r))) 3
theorem ub{a b c d:Nat}:FE.den [a,b,c,d,c-(b+1),c-b] (.i (.l .p (.n 28)) (.i (.l (.j .q) .r) (.l (.a (.m 29 .t) (.a .s .p)) (.a (.m 29 .u) .s)))):=oT .r (.j .q) .t .r .q .u
def q8:=O (.i (.l (.a .p (.j .q)) (.a .r (.m 28 .s))) (.l (.j (.a .p .q)) (.a .r (.m 28 .s)))) 4
theorem nh{a b c:Nat}:FE.den [a,b,c,a-b] (.e (.j (.a (.m 29 .s) .r)) (.a (.m 29 .s) (.j .r))):=oS .p .q .s
def wD:=O (.i (.l (.a .p .q) (.a .r (.m 28 .s))) (.l (.j (.a .p .q)) (.a (.j .r) (.m 28 .s)))) 4
def tu:=O (.i (.t .p .q) (.t .p (.j .q))) 2
def uB:=O (.i (.d (.t .p .q) (.t .r .q)) (.d (.t .p (.j .q)) (.t .r (.j .q)))) 3
def qr:=O (.t .p (.j .p)) 1
def xm:=O (.i (.l .p .q) (.i (.d (.l (.a .r .q) (.n 14)) (.l (.a .s .q) (.n 14))) (.d (.l (.a .r .p) (.n 14)) (.l (.a .s .p) (.n 14))))) 4
def v5:=O (.i (.e (.j .p) (.j .q)) (.e .p .q)) 2
def rX:=O (.i (.l (.a .p (.j .q)) (.n 40)) (.l (.a .p .q) (.n 40))) 2
def ut:=O (.i (.e (.j .p) (.j .q)) (.i (.l (.a .r (.j .q)) (.n 40)) (.l (.a .r .p) (.n 40)))) 3
def Zas:=O (.i (.l (.a .p .q) (.n 14)) (.l .p (.n 60))) 2
def Zb9:=O (.i (.l (.a .p .q) (.n 14)) (.l .p (.n 100))) 2
theorem oU{a b:Nat}:FE.den [a,b,Do b a] (.i (.l .p (.n 8)) (.l .r (.n 8))):=oI .q .p .r
def y8:=O (.i (.l (.a .p .q) (.n 14)) (.l .p (.n 999))) 2
def lM:=O (.i (.l (.a .p .q) (.a .r (.m 28 .s))) (.l (.a .p .q) (.a (.j .r) (.m 28 .s)))) 4
def Zaq:=O (.i (.l (.a .p (.j .q)) (.n 14)) (.i (.l .r (.a .s .p)) (.i (.l .s .t) (.i (.l .t (.n 14)) (.l .r (.n 100)))))) 5
def Za2:=O (.i (.l (.a .p .q) (.n 14)) (.l .p (.n 20))) 2
def zv:=O (.i (.l (.a .p .q) (.n 14)) (.l .p (.n 1000))) 2
def mR:=O (.i (.l (.a (.j .p) .q) (.n 14)) (.l (.a .p .q) (.n 14))) 2
theorem Qs{C:Nat→Prop}{n:Nat}(h:n<2)(a:C 0)(b:C 1):C n:=by
 cases n with
 |zero=>exact a
 |succ n=>cases n with
  |zero=>exact b
  |succ n=>exact absurd (YG (YG h)) (Lq n)
theorem sp{C:Nat→Prop}{n:Nat}(h:n<3)(a:C 0)(b:C 1)(c:C 2):C n:=by
 cases n with
 |zero=>exact a
 |succ n=>exact Qs (C:=fun n=>C (n+1)) (YG h) b c
theorem Q1{n:Nat}(h:n≤1000000):(n:Int)<2 ^ 63:=Int.lt_of_le_of_lt (iw.mpr h) (by decide+kernel)
theorem bZ{i:Int}(h:i<1000000):i<2 ^ 63:=iz h (by decide+kernel)
theorem xf{i:Int}(h:0≤i):-2 ^ 63≤i:=YF (by decide+kernel) h
@[inline]def aT(t:Lean.Unhygienic (Lean.TSyntax `Lean.Parser.Tactic.tacticSeq)):Lean.Syntax:=t.run.raw
@[inline]def aR:Lean.Syntax:=aT `(tacticSeq|rfl)
@[inline]def aI:Lean.Syntax:=aT `(tacticSeq|intro m;rfl)
@[inline]def aD:Lean.Syntax:=aT `(tacticSeq|decide)
@[inline]def aE:Lean.Syntax:=aT `(tacticSeq|exact rfl)
@[inline]def aW:Lean.Syntax:=aT `(tacticSeq|intro m;with_unfolding_all rfl)
local macro_rules (kind:=Lean.Parser.Tactic.rwSeq)
  |s=>do
    let q:=s[2][1]
    if q.getNumArgs==0||s[1][0].getNumArgs>0||s[3].getNumArgs>0 then Lean.Macro.throwUnsupported
    let m:=Lean.Syntax.node .none;let z:=m Lean.nullKind;let a:=Lean.mkAtom;let p:=fun x=>m (.str `Lean.Parser.Term x)
    return z ((q.getSepArgs.map fun x=>m `Lean.Parser.Tactic.refine #[a "",p "app" #[Lean.mkIdent (if x[0].isNone then `Internal.er else `Internal.zC),z #[p "hole" #[a "_"],p "app" #[x[1],z #[p "ellipsis" #[a ""]]],p "syntheticHole" #[a "",a "_"]]]]).push (s.setArg 2 (s[2].setArg 1 (z #[]))))
@[inline]def aK:Lean.Syntax:=aT `(tacticSeq|kernel_rfl)
@[inline]def aB(a:Lean.Syntax):Lean.MacroM Lean.Syntax:=return .node .none `Lean.Parser.Term.byTactic #[.atom .none "by",a]
local macro_rules (kind:=Lean.Parser.Term.tuple)
  |s=>if s[1].isNone then aB aR else Lean.Macro.throwUnsupported
local macro_rules (kind:=Lean.Parser.Term.omission)
  |s=>aB aD
local macro_rules (kind:=«term∅»)
  |s=>aB aK
local macro_rules (kind:=term!_)
  |s=>aB (aE.setArg 0 (aE[0].setArg 0 (aE[0][0].setArg 0 (aE[0][0][0].setArg 1 s[1]))))
local macro_rules (kind:=Lean.Parser.Tactic.show)
  |s=>return let m:=Lean.Syntax.node .none;let a:=Lean.mkAtom;m `Lean.Parser.Tactic.refine #[a "refine",m `Lean.Parser.Term.typeAscription #[a "(",m `Lean.Parser.Term.syntheticHole #[a "?",m `Lean.Parser.Term.hole #[a "_"]],a ":",m `null #[s[1]],a ")"]]
def OV(x:AD×A5):Prop:=
 ∀(s₀ s₁:AN)(mg mb:Str→Option Value)(p:Hz)(loose:List Str)(fa a:AB)(vs:List Value)(is:List Int),s₁.heap=x.2→TopRead p loose mg mb s₁.heap→(hd.heap_1 x.1.params).In s₁.heap→mg "law"=some (.ref fa)→s₁.gens=#[]→s₁.heap.IsList a vs.toArray→Jp vs is→is.length≤63→
  AR (Ae PySem.Challenge.rw_pq0016_01.row.prog x.1) callerA (call (.ref fa) [.ref a])
   (fun v s'=>GoodWG PySem.Challenge.rw_pq0016_01.row.claim (classAt s₀.heap) (ExcName.means s₀.heap) [ofPy (PyData.list (is.map PyData.int))] s₁ (.ok (.ret v)) s')
   (fun e s'=>GoodWG PySem.Challenge.rw_pq0016_01.row.claim (classAt s₀.heap) (ExcName.means s₀.heap) [ofPy (PyData.list (is.map PyData.int))] s₁ (.error e) s') s₁
def wx:AD×A5:=@Zew _ ⟨({draws:=fun _ _=>0,params:={strHash:=fun _=>0,shareClass:=fun _=>0,mergeTok:=id,idOf:=fun _=>0,idOfShared:=fun _ _=>0,followText:=fun _=>false,idOfImm:=fun _=>0}},BV)⟩ fun x=>¬OV x
@[irreducible] noncomputable def w:AD:=wx.1
@[irreducible] noncomputable def hb:A5:=wx.2
theorem qg(h:OV (w,hb))(x:AD×A5):OV x:=Te fun n=>Zex (p:=fun x=>¬OV x) ⟨x,n⟩ (by unfold w hb at h;exact h)
def zE{α:Type}(P:α→Prop)(d:α):α:=@Zew α ⟨d⟩ fun t=>¬P t
theorem zF{α:Type}{P:α→Prop}{d:α}(h:P (zE P d))(t:α):P t:=Te fun n=>@Zex α (fun t=>¬P t) ⟨t,n⟩ h
set_option genInjectivity true
inductive AV where
 |none
 |bool (b:Bool)
 |int (i:Int)
 |str (s:Str)
 |ref (a:AB)
 |tup (xs:List AV)
 |fix (v:Value)
mutual
inductive VR(h:A5):AV→Value→Prop
 |none:VR h .none .none
 |bool (b:Bool):VR h (.bool b) (.bool b)
 |int (i:Int) (t:Tok):VR h (.int i) (.int i t)
 |str (s:Str) (t:Tok):VR h (.str s) (.str s t)
 |ref (a:AB):VR h (.ref a) (.ref a)
 |fix (v:Value):VR h (.fix v) v
 |tup {a:AB} {xs:List AV} {items:Array Value} {n:Nat}:h.get? a=some {cls:=.type "tuple",data:=.seq items n}→VRs h xs items.toList→VR h (.tup xs) (.ref a)
inductive VRs(h:A5):List AV→List Value→Prop
 |nil:VRs h [] []
 |cons {x:AV} {v:Value} {xs:List AV} {vs:List Value}:VR h x v→VRs h xs vs→VRs h (x::xs) (v::vs)
end
theorem VR.mono{h h':A5}(k:∀a o items n,h.get? a=some o→o.cls=.type "tuple"→o.data=.seq items n→h'.get? a=some o){x:AV}{v:Value}(r:VR h x v):VR h' x v:=
 @VR.rec h (fun x v m=>VR h' x v) (fun xs vs m=>VRs h' xs vs) .none .bool .int .str .ref .fix (fun e m ih=>.tup (k _ _ _ _ e rfl rfl) ih) .nil (fun m m a b=>.cons a b) x v r
theorem VRs.ind{P:List AV→List Value→Prop}(n:P [] [])(c:∀{x v xs vs},VR h x v→VRs h xs vs→P xs vs→P (x::xs) (v::vs))(r:VRs h xs vs):P xs vs:=
 @VRs.rec h (fun m m m=>True) (fun xs vs m=>P xs vs) trivial (fun m=>trivial) (fun m m=>trivial) (fun m m=>trivial) (fun m=>trivial) (fun m=>trivial) (fun m m m=>trivial) n (fun r rs m ih=>c r rs ih) xs vs r
theorem VRs.mono{h h':A5}(k:∀a o items n,h.get? a=some o→o.cls=.type "tuple"→o.data=.seq items n→h'.get? a=some o){xs:List AV}{vs:List Value}(r:VRs h xs vs):VRs h' xs vs:=
 r.ind .nil fun a m b=>.cons (a.mono k) b
theorem VRs.length:∀{xs:List AV}{vs:List Value},VRs h xs vs→xs.length=vs.length
 :=fun r=>r.ind (P:=fun xs vs=>xs.length=vs.length) rfl fun n n m=>congrArg (· +1) m
theorem VRs.append:∀{xs:List AV}{vs:List Value}{ys:List AV}{m:List Value},VRs h xs vs→VRs h ys m→VRs h (xs++ys) (vs++m)
 :=fun r q=>r.ind (P:=fun xs vs=>VRs h (xs++_) (vs++_)) q fun a zz n=>.cons a n
theorem VRs.one{h:A5}{x:AV}{v:Value}(r:VR h x v):VRs h [x] [v]:=.cons r .nil
theorem VRs.get{i:Nat}{v:Value}(r:VRs h xs vs)(e:vs[i]? =some v):∃x,xs[i]? =some x∧VR h x v:=
 r.ind (P:=fun xs vs=>∀i v,vs[i]? =some v→∃x,xs[i]? =some x∧VR h x v) (fun m m e=>As (List.getElem?_nil.symm.trans e)) (fun a m n i v e=>by
  cases i with
  |zero=>obtain rfl:=Ao e;exact⟨_,rfl,a⟩
  |succ i=>exact n i v e) i v e
theorem VRs.get'{i:Nat}{x:AV}(r:VRs h xs vs)(e:xs[i]? =some x):∃v,vs[i]? =some v∧VR h x v:=
 r.ind (P:=fun xs vs=>∀i x,xs[i]? =some x→∃v,vs[i]? =some v∧VR h x v) (fun m m e=>As (List.getElem?_nil.symm.trans e)) (fun a m n i x e=>by
  cases i with
  |zero=>obtain rfl:=Ao e;exact⟨_,rfl,a⟩
  |succ i=>exact n i x e) i x e
theorem VRs.drop{h:A5}{n:Nat}{xs:List AV}{vs:List Value}(r:VRs h xs vs):VRs h (xs.drop n) (vs.drop n):=
 r.ind (P:=fun xs vs=>∀n,VRs h (xs.drop n) (vs.drop n)) (fun n=>by rw[List.drop_nil,List.drop_nil];exact .nil) (fun a b m n=>by
  cases n with
  |zero=>exact .cons a b
  |succ n=>exact m n) n
theorem VRs.take(r:VRs h xs vs):VRs h (xs.take n) (vs.take n):=
 r.ind (P:=fun xs vs=>∀n,VRs h (xs.take n) (vs.take n)) (fun n=>by rw[List.take_nil,List.take_nil];exact .nil) (fun a b m n=>by
  cases n with
  |zero=>exact .nil
  |succ n=>exact .cons a (m n)) n
theorem VRs.split:∀{vs:List Value},VRs h (xs++ys) vs→∃n m,vs=n++m∧VRs h xs n∧VRs h ys m:=by
 induction xs with
 |nil=>exact fun r=>⟨[],_,rfl,.nil,r⟩
 |cons x xs ih=>
  intro vs r;cases r with
  |cons a b=>exact FN (ih b) fun n m e r1 r2=>⟨_::n,m,by rw[e];rfl,.cons a r1,r2⟩
theorem VRs.set{h:A5}{i:Nat}{xs:List AV}{vs:List Value}{x:AV}{v:Value}(r:VRs h xs vs)(q:VR h x v):VRs h (xs.set i x) (vs.set i v):=
 r.ind (P:=fun xs vs=>∀i,VRs h (xs.set i x) (vs.set i v)) (fun n=>.nil) (fun a b m i=>by
  cases i with
  |zero=>exact .cons q b
  |succ i=>exact .cons a (m i)) i
theorem VR.inv_int(r:VR h (.int i) v):∃t,v=.int i t:=by cases r;exact⟨_,rfl⟩
theorem VR.inv_str(r:VR h (.str i) v):∃t,v=.str i t:=by cases r;exact⟨_,rfl⟩
theorem QC(r:VR h (.bool b) v):v=.bool b:=by cases r;rfl
theorem Bi(r:VR h (.ref a) v):v=.ref a:=by cases r;rfl
theorem Xp(r:VR h .none v):v=.none:=by cases r;rfl
theorem TU(r:VR h (.fix u) v):v=u:=by cases r;rfl
inductive B7 where
 |int (i:Int)
 |str (s:Str)
 deriving DecidableEq
def B7.av:B7→AV
 |.int i=>.int i
 |.str s=>.str s
inductive AO where
 |list (xs:List AV)
 |dictI (es:List (Int×AV))
 |dictS (es:List (Str×AV))
 |dictT (es:List (List B7×AV))
 |inst (C dx:AB)
 |ns (n:Nat) (es:Str→Option AV)
 |setI (S:List Int)
 |frz (o:C6)
abbrev AA:=AB→Option AO
def upd(σ:AA)(a:AB)(x:AO):AA:=fun b=>if b=a then some x else σ b
@[simp]theorem Am(σ:AA)(a:AB)(x:AO):upd σ a x a=some x:=if_pos rfl
theorem Au(σ:AA)(x:AO)(h:b≠a):upd σ a x b=σ b:=if_neg h
set_option genInjectivity false
abbrev pg:Hz:=PySem.Challenge.rw_pq0016_01.row.prog
inductive Ct{K:Type}(h:A5):List (K×AV)→List (K×Value)→Prop
 |nil:Ct h [] []
 |cons {k:K} {x:AV} {v:Value} {xs vs}:VR h x v→Ct h xs vs→Ct h ((k,x)::xs) ((k,v)::vs)
inductive DU{K:Type}(h:A5):List (K×AV)→List (K×AB×Value)→Prop
 |nil:DU h [] []
 |cons {k:K} {a:AB} {x:AV} {v:Value} {xs vs}:VR h x v→DU h xs vs→DU h ((k,x)::xs) ((k,a,v)::vs)
def Bt(h h':A5):Prop:=∀a o items n,h.get? a=some o→o.cls=.type "tuple"→o.data=.seq items n→h'.get? a=some o
theorem Ct.mono{K:Type}{h h':A5}(k:Bt h h'):∀{xs:List (K×AV)}{vs},Ct h xs vs→Ct h' xs vs:=fun r=>by induction r with|nil=>exact .nil|cons a _ m=>exact .cons (a.mono k) m
theorem DU.mono{K:Type}{h h':A5}(k:Bt h h'):∀{xs:List (K×AV)}{vs},DU h xs vs→DU h' xs vs:=fun r=>by induction r with|nil=>exact .nil|cons a _ m=>exact .cons (a.mono k) m
def LP:B7→Value→Bool
 |.int i,v=>Value.isInt i v
 |.str s,v=>Value.isStrOf s v
theorem q7(h:LP k v=true):(∃i t,k=.int i∧v=.int i t)∨∃x t,k=.str x∧v=.str x t:=by
 cases k with
 |int i=>obtain⟨t,rfl⟩:=QI h;exact .inl ⟨i,t,rfl,rfl⟩
 |str x=>obtain⟨t,rfl⟩:=Value.isStrOf_shape h;exact .inr ⟨x,t,rfl,rfl⟩
def fG(w:AD):B7→Int
 |.int i=>hashInt i
 |.str s=>hashStr w s
theorem rZ{m:Hz}{w:AD}{A:AX}{E:Value→AN→Prop}{s:AN}{i:Int}{t:Tok}{x:Str}{u:Tok}{Q:Bool→AN→Prop}
  (q:Q false s):AR (Ae m w) A (eqBool (.int i t) (.str x u)) Q E s:=by
 unfold eqBool;rw[if_neg (by simp)];exact AE (EqMixed.eq_int_str (Q:=fun a s'=>AR (Ae m w) A (truthOfDropped a) Q E s') (QJ q))
theorem m9{m:Hz}{w:AD}{A:AX}{E:Value→AN→Prop}{s:AN}{i:Int}{t:Tok}{x:Str}{u:Tok}{Q:Bool→AN→Prop}
  (q:Q false s):AR (Ae m w) A (eqBool (.str x u) (.int i t)) Q E s:=by
 unfold eqBool;rw[if_neg (by simp)];exact AE (EqMixed.eq_str_int (Q:=fun a s'=>AR (Ae m w) A (truthOfDropped a) Q E s') (QJ q))
theorem Jb{C:B7→Value→Prop}{k:B7}{v:Value}(h:LP k v=true)(m:∀i t,C (.int i) (.int i t))(hs:∀x t,C (.str x) (.str x t)):C k v:=by
 rcases q7 h with⟨i,t,rfl,rfl⟩|⟨x,t,rfl,rfl⟩
 ·exact m i t
 ·exact hs x t
theorem ku{a b:B7}{v:Value}(m:LP a v=true):LP b v=true→a=b:=Jb (C:=fun a v=>LP b v=true→a=b) m
 (fun i t hb=>Jb (C:=fun b v=>v=.int i t→B7.int i=b) hb (fun j u e=>congrArg B7.int (PySem.Value.int.inj e).1.symm) (fun x u e=>by cases e) rfl)
 (fun x t hb=>Jb (C:=fun b v=>v=.str x t→B7.str x=b) hb (fun j u e=>by cases e) (fun y u e=>congrArg B7.str (Zey e).1.symm) rfl)
theorem bb{α β:Type}[DecidableEq α][DecidableEq β]{f:α→β}(h:∀a b,f a=f b→a=b)(a b:α):decide (a=b)=decide (f a=f b):=by
 by_cases e:a=b
 ·exact(decide_eq_true e).trans (decide_eq_true (congrArg f e)).symm
 ·exact(decide_eq_false e).trans (decide_eq_false fun q=>e (h a b q)).symm
def OI(m:Hz)(w:AD):KeyKind m w B7 where
 is:=LP
 hash:=fG w
 inj:=fun v a b ha hb=>ku ha hb
 byValue:=fun k v h=>Jb (C:=fun zz v=>carriedByValue v=true) h (fun zz zz=>rfl) (fun zz zz=>rfl)
 pyHash:=fun{A E s k v Q} n=>Jb (C:=fun k v=>Q (fG w k) {s with toks:=s.toks+1}→AR (Ae m w) A (pyHash v) Q E s) n (fun i t h=>wpAny_pyHash_int h) (fun x t h=>wpAny_pyHash_str h)
 eqBool:=fun{A E s a b u v Q} hu n=>Jb (C:=fun a u=>Q (decide (a=b)) s→AR (Ae m w) A (eqBool u v) Q E s) hu
  (fun i t=>Jb (C:=fun b v=>Q (decide (B7.int i=b)) s→AR (Ae m w) A (eqBool (.int i t) v) Q E s) n
   (fun j u h=>wpAny_eqBool_int (by rw[show(i==j)=decide (B7.int i=B7.int j)from bb (fun a b e=>B7.int.inj e) i j];exact h))
   (fun y u h=>rZ (by rw[←decide_eq_false (p:=B7.int i=B7.str y) (by intro e;cases e)];exact h)))
  (fun x t=>Jb (C:=fun b v=>Q (decide (B7.str x=b)) s→AR (Ae m w) A (eqBool (.str x t) v) Q E s) n
   (fun j u h=>m9 (by rw[←decide_eq_false (p:=B7.str x=B7.int j) (by intro e;cases e)];exact h))
   (fun y u h=>wpAny_eqBool_str (by rw[show decide (x=y)=decide (B7.str x=B7.str y)from bb (fun a b e=>B7.str.inj e) x y];exact h)))
 «strs»:=fun k x t v h=>Jb (C:=fun k u=>u=.str x t→LP k v=v.isStr x) h (fun i t' e=>by cases e) (fun y t' e=>by
  have e:=(Zey e).1;subst e;cases v<;>rfl) rfl
inductive CS(h:A5)(a:AB)(xs:List AV):Prop
 |mk (items:Array Value) (n:Nat) (e:h.get? a=some {cls:=.type "list",data:=.seq items n}) (r:VRs h xs items.toList)
def Cn{a0 n m}{c:Prop}:=@CS.casesOn a0 n m (fun zz=>c)
inductive Mw(h:A5)(a:AB)(n:Nat)(f:Str→Option AV):Prop
 |mk (o:C6) (es:Array YH) (ep:Nat) (ho:h.get? a=some o) (hc:o.cls=.type "dict") (hd:o.data=.dict es ep) (hk:Ij es) (hs:es.size≤n) (hf:∀y,(f y=none→Ik es y=none)∧(∀x,f y=some x→∃v,Ik es y=some v∧VR h x v))
def YA{a0 a1 m n}{c:Prop}:=@Mw.casesOn a0 a1 m n (fun zz=>c)
def Ee(w:AD)(h:A5)(a:AB):AO→Prop
 |.list xs=>CS h a xs
 |.dictI es=>∃kvs,h.DictOf (FG pg w) a kvs∧Ct h es kvs
 |.dictS es=>∃kvs,h.DictOf (strKind pg w) a kvs∧Ct h es kvs
 |.dictT es=>∃xs,h.DictOfH (tupleKind (OI pg w)) a xs∧DU h es xs
 |.inst C dx=>h.get? a=some {cls:=.ref C,dict:=some dx,data:=.plain}
 |.ns n f=>Mw h a n f
 |.setI S=>∃es ep t,h.get? a=some {cls:=.type "set",data:=.set es ep t}∧ElemsOf (FG pg w) es.toList∧(∀k,k∈S↔∃e∈es.toList,(FG pg w).is k e.2=true)∧es.size<Kd∧t.fits es.size=true∧t.led=true
 |.frz o=>(∃es ep,o.data=.dict es ep∧Ij es)∧∃m,h.get? a=some {o with slots:=m}
theorem Ee.there{h:A5}{a:AB}{x:AO}(o:Ee w h a x):∃ob,h.get? a=some ob∧(ob.cls=.type "tuple"→∀items n,ob.data≠.seq items n)∧True:=by
 cases x with
 |list xs=>refine Cn o fun items n e m=>?_;exact⟨_,e,by simp,trivial⟩
 |dictI es=>refine J3 o fun kvs ob es ep e c m m=>?_;exact⟨_,e,by rw[c.1];exact(fun e=>nomatch e),trivial⟩
 |dictS es=>refine J3 o fun kvs ob es ep e c m m=>?_;exact⟨_,e,by rw[c.1];exact(fun e=>nomatch e),trivial⟩
 |dictT es=>refine J3 o fun kvs ob es ep e c m m=>?_;exact⟨_,e,by rw[c.1];exact(fun e=>nomatch e),trivial⟩
 |inst C dx=>exact⟨_,o,!(by intro e;injection e),trivial⟩
 |ns n f=>refine YA o fun ob es ep e c m m m m=>?_;exact⟨_,e,by rw[c];exact(fun e=>nomatch e),trivial⟩
 |setI S=>refine K0 o fun es ep t e m=>?_;exact⟨_,e,by simp,trivial⟩
 |frz ob=>refine Mi o fun es ep d m sl e=>?_;exact⟨_,e,fun m items n q=>(by dsimp only at q;exact(nomatch ((d.symm.trans q)))),trivial⟩
theorem Ee.keeps{h h':A5}{a:AB}{x:AO}(o:Ee w h a x)(e:h'.get? a=h.get? a)(k:Bt h h'):Ee w h' a x:=by
 cases x with
 |list xs=>refine Cn o fun items n q r=>?_;exact⟨items,n,e.trans q,r.mono k⟩
 |dictI es=>refine Pm o fun kvs m es ep q c r=>?_;exact⟨kvs,⟨m,es,ep,e.trans q,c⟩,r.mono k⟩
 |dictS es=>refine Pm o fun kvs m es ep q c r=>?_;exact⟨kvs,⟨m,es,ep,e.trans q,c⟩,r.mono k⟩
 |dictT es=>
  refine AY o fun kvs a2=>AL a2 fun a0 r=>OP a0 fun m es ep q c1 c2 c3 c4 c5=>?_;refine⟨kvs,⟨m,es,ep,e.trans q,c1,c2,c3,fun y hy=>?_,c5⟩,r.mono k⟩;refine LY (c4 y hy) fun oo items n a1=>Bv a1 fun q1 q2 q3 q4=>?_;exact⟨oo,items,n,k _ _ _ _ q1 q2 q3,q2,q3,q4⟩
 |inst C dx=>exact e.trans o
 |ns n f=>
  refine YA o fun m es ep q c1 c2 c3 c4 c5=>?_;exact⟨m,es,ep,e.trans q,c1,c2,c3,c4,fun y=>⟨(c5 y).1,fun x hx=>AI ((c5 y).2 x hx) fun v p r=>⟨v,p,r.mono k⟩⟩⟩
 |setI S=>refine K0 o fun es ep t q r=>?_;exact⟨es,ep,t,e.trans q,r⟩
 |frz m=>refine GG o fun d sl q=>?_;exact⟨d,sl,e.trans q⟩
set_option genInjectivity true
section
structure Aj:Prop where
 K:(hd.heap_1 w.params).In hb
 T:∃p loose mg mb,TopRead p loose mg mb hb
def Hc(o m:C6):Prop:=m=o∨((∃es ep,o.data=.dict es ep∧Ij es)∧∃n,m={o with slots:=n})
theorem Hc.refl(o:C6):Hc o o:=.inl rfl
theorem Hc.trans{a b c:C6}(x:Hc a b)(y:Hc b c):Hc a c:=by
 rcases x with rfl|⟨h,n,rfl⟩
 ·exact y
 ·rcases y with rfl|⟨_,m,rfl⟩
  ·exact .inr ⟨h,n,rfl⟩
  ·exact .inr ⟨h,m,rfl⟩
theorem Hc.data(x:Hc a b):b.data=a.data:=by rcases x with rfl|⟨_,m,rfl⟩<;>rfl
theorem Hc.of_ne(x:Hc a b)(h:∀es ep,a.data=.dict es ep→¬Ij es):b=a:=by rcases x with rfl|⟨⟨es,ep,q,k⟩,_⟩;rfl;exact absurd k (h es ep q)
def KB(σ:AA)(h h':A5):Prop:=∀b o,h.get? b=some o→σ b=none→∃m,h'.get? b=some m∧Hc o m
structure G(σ:AA)(h:A5):Prop where
 base:∀b o,hb.get? b=some o→h.get? b=some o
 own:∀a x,σ a=some x→hb.get? a=none∧Ee w h a x
structure Aq(σ:AA)(s:AN)(σ':AA)(s':AN):Prop where
 evo:KB σ s.heap s'.heap
 dom:∀b,σ' b≠none→σ b≠none∨s.heap.get? b=none
 gens:s'.gens=s.gens
 os:s'.os=s.os
variable {σ σ' σ'':AA} {s s' s'':AN} {h h':A5} {A:AX}
theorem G.notTup(g:G σ h)(e:h.get? a=some o)(c:o.cls=.type "tuple")(d:o.data=.seq items n):σ a=none:=by
 cases q:σ a with
 |none=>rfl
 |some x=>
  refine B3 ((g.own a x q).2.there) fun ob m n1 zz=>?_;obtain rfl:=Ao ((e.symm.trans m));exact absurd d (n1 c _ _)
theorem KB.tup(g:G σ h)(e:KB σ h h'):Bt h h':=fun a o m m q c d=>by
 refine AI (e a o q (g.notTup q c d)) fun o' n f=>?_;rw[n,f.of_ne (fun m m q=>!(nomatch ((d.symm.trans q))))]
theorem KB.refl(σ:AA)(h:A5):KB σ h h:=fun m o e m=>⟨o,e,.refl o⟩
theorem KB.of_keeps(k:∀b o,h.get? b=some o→h'.get? b=some o):KB σ h h':=fun m o e m=>⟨o,k _ _ e,.refl o⟩
theorem Aq.refl(σ:AA)(s:AN):Aq σ s σ s:=⟨.refl _ _,fun m e=>.inl e,rfl,rfl⟩
theorem Aq.trans(x:Aq σ s σ' s')(y:Aq σ' s' σ'' s''):Aq σ s σ'' s'':=by
 refine⟨fun b o e n=>?_,fun b q=>?_,y.gens.trans x.gens,y.os.trans x.os⟩
 ·refine AI (x.evo b o e n) fun o' m f=>?_;have n':σ' b=none:=by
   cases q:σ' b with
   |none=>rfl
   |some z=>
    rcases x.dom b (by rw[q];exact Ag _)with d|d
    ·exact absurd n d
    ·exact Bh ((e.symm.trans d))
  refine AI (y.evo b o' m n') fun a0 a1 f'=>?_;exact⟨a0,a1,f.trans f'⟩
 ·rcases y.dom b q with d|d
  ·exact x.dom b d
  ·cases q1:σ b with
   |some z=>exact .inl (!Ag _)
   |none=>
    refine .inr ?_;cases q2:s.heap.get? b with
    |none=>rfl
    |some o=>
     refine AI (x.evo b o q2 q1) fun o' m zz=>?_;exact As ((d.symm.trans m))
theorem G.weaken(g:G σ h)(k:∀a x,σ' a=some x→σ a=some x):G σ' h:=⟨g.base,fun a x e=>g.own a x (k a x e)⟩
theorem Aq.weaken(x:Aq σ s σ' s')(k:∀a x,σ'' a=some x→σ' a=some x):Aq σ s σ'' s':=
 ⟨x.evo,fun b q=>x.dom b (by
  cases e:σ'' b with
  |none=>exact absurd e q
  |some z=>rw[k b z e];exact Ag _),x.gens,x.os⟩
def oc(env:Af):List AB:=(env.cells.filter fun p=>env.kindOf p.1==some .cell).map (·.2)
theorem J0(e:env.cells.lookup x=some c)(k:env.kindOf x=some .cell):c∈oc env:=
 BD.mpr ⟨(x,c),Dn.mpr ⟨mem_of_lookup e,by simp[k]⟩,rfl⟩
theorem Zc8{l:List (Str×AB)}(m:(l.map (·.2)).Nodup)(h1:(x,c)∈l)(h2:(y,c)∈l):x=y:=by
 induction l with
 |nil=>cases h1
 |cons p r ih=>
  rw[CF,FU]at m;rcases A7.mp h1 with e1|m1<;>rcases A7.mp h2 with n|m2
  ·rw[←e1]at n;exact(Nj n).1.symm
  ·exact absurd (BD.mpr ⟨_,m2,by rw[←e1]⟩) m.1
  ·exact absurd (BD.mpr ⟨_,m1,by rw[←n]⟩) m.1
  ·exact ih m.2 m1 m2
theorem Vl(n:(oc env).Nodup)(e1:env.cells.lookup x=some c)(k1:env.kindOf x=some .cell)(m:env.cells.lookup y=some c)(k2:env.kindOf y=some .cell):x=y:=
 Zc8 n (Dn.mpr ⟨mem_of_lookup e1,by simp[k1]⟩) (Dn.mpr ⟨mem_of_lookup m,by simp[k2]⟩)
abbrev AW:=Str→Option AV
structure SU(env:Af)(ρ:AW)(h:A5):Prop where
 ns:∃m,h.Ns env.locals m∧∀x av,ρ x=some av→env.kindOf x=some .local→∃v,m x=some v∧VR h av v
 cell:∀c∈oc env,∃v,h.IsCell c v
 cellv:∀x av,ρ x=some av→env.kindOf x=some .cell→∃c v,env.cells.lookup x=some c∧h.IsCell c (some v)∧VR h av v
 apart:(oc env).Nodup
 apart2:env.locals∉oc env
structure St(env:Af)(ρ:AW)(σ:AA)(h:A5):Prop where
 g:G σ h
 l:SU env ρ h
 nL:σ env.locals=none∧hb.get? env.locals=none
 nC:∀c∈oc env,σ c=none∧hb.get? c=none
theorem SU.evo(l:SU env ρ h)(nL:σ env.locals=none)(nC:∀c∈oc env,σ c=none)(e:KB σ h h')(t:Bt h h'):SU env ρ h':=by
 refine V5 l.ns fun m o es ep ho hd hk hf hm=>?_;refine AI (e _ o ho nL) fun o' a2 f=>?_;refine⟨⟨m,⟨o',es,ep,a2,f.data.trans hd,hk,hf⟩,fun x av q k=>AI (hm x av q k) fun v a b=>⟨v,a,b.mono t⟩⟩,fun c q=>?_,fun x av q k=>?_,l.apart,l.apart2⟩
 ·refine Cr (l.cell c q) fun v oc a1 c2=>?_;refine AI (e _ oc a1 (nC _ q)) fun a0 n f'=>?_;exact⟨v,a0,n,f'.data.trans c2⟩
 ·refine OJ (l.cellv x av q k) fun c v q1 oc a1 c2 r=>?_;refine AI (e _ oc a1 (nC _ (J0 q1 k))) fun a0 n f'=>?_;exact⟨c,v,q1,⟨a0,n,f'.data.trans c2⟩,r.mono t⟩
theorem Aq.dead(x:Aq σ s σ' s')(e:s.heap.get? b=some o)(n:σ b=none):σ' b=none:=by
 cases q:σ' b with
 |none=>rfl
 |some z=>
  rcases x.dom b (by rw[q];exact Ag _)with d|d
  ·exact absurd n d
  ·exact Bh ((e.symm.trans d))
theorem St.step(S:St env ρ σ s.heap)(g:G σ' s'.heap)(x:Aq σ s σ' s'):St env ρ σ' s'.heap:=by
 refine⟨g,S.l.evo S.nL.1 (fun c m=>(S.nC c m).1) x.evo (x.evo.tup S.g),⟨?_,S.nL.2⟩,fun c m=>⟨?_,(S.nC c m).2⟩⟩
 ·refine Pm S.l.ns fun m o n n ho n n=>?_;exact x.dead ho S.nL.1
 ·refine Cr (S.l.cell c m) fun n o ho n=>?_;exact x.dead ho (S.nC _ m).1
inductive PV(σ:AA)(s:AN)(Φ:AV→AA→Prop)(v:Value)(s':AN):Prop
 |mk (av:AV) (σ':AA) (r:VR s'.heap av v) (g:G σ' s'.heap) (t:Aq σ s σ' s') (q:Φ av σ')
def BG{a0 a1 n a3 m}{c:Prop}:=@PV.casesOn a0 a1 n a3 m (fun _=>c)
inductive PL(σ:AA)(s:AN)(Φ:List AV→AA→Prop)(v:List Value)(s':AN):Prop
 |mk (av:List AV) (σ':AA) (r:VRs s'.heap av v) (g:G σ' s'.heap) (t:Aq σ s σ' s') (q:Φ av σ')
def GV{a0 a1 n a3 m}{c:Prop}:=@PL.casesOn a0 a1 n a3 m (fun _=>c)
inductive PB(σ:AA)(s:AN)(Φ:Bool→AA→Prop)(v:Bool)(s':AN):Prop
 |mk (σ':AA) (g:G σ' s'.heap) (t:Aq σ s σ' s') (q:Φ v σ')
def FD{a0 a1 n a3 m}{c:Prop}:=@PB.casesOn a0 a1 n a3 m (fun _=>c)
inductive PU(σ:AA)(s:AN)(Φ:AA→Prop)(v:Unit)(s':AN):Prop
 |mk (σ':AA) (g:G σ' s'.heap) (t:Aq σ s σ' s') (q:Φ σ')
def TJ{a0 a1 n a3 m}{c:Prop}:=@PU.casesOn a0 a1 n a3 m (fun _=>c)
inductive Is{α:Type}(c:α)(P:AA→Prop)(v:α)(σ:AA):Prop
 |mk (e:v=c) (q:P σ)
def Xy{a0 a1 n a3 m}{c:Prop}:=@Is.casesOn a0 a1 n a3 m (fun zz=>c)
def Ej(A:AX)(t:Sem Value)(σ:AA)(s:AN)(Φ:AV→AA→Prop):Prop:=
 AR (Ae pg w) A t (PV σ s Φ) (fun m m=>False) s
def uV(A:AX)(t:Sem (List Value))(σ:AA)(s:AN)(Φ:List AV→AA→Prop):Prop:=
 AR (Ae pg w) A t (PL σ s Φ) (fun m m=>False) s
def Uj(A:AX)(t:Sem Bool)(σ:AA)(s:AN)(Φ:Bool→AA→Prop):Prop:=
 AR (Ae pg w) A t (PB σ s Φ) (fun m m=>False) s
def SZ(A:AX)(t:Sem Unit)(σ:AA)(s:AN)(Φ:AA→Prop):Prop:=
 AR (Ae pg w) A t (PU σ s Φ) (fun m m=>False) s
def EV(A:AX)(env:Af)(e:Expr)(ρ:AW)(σ:AA)(Φ:AV→AA→Prop):Prop:=
 ∀s,St env ρ σ s.heap→Ej A (A0 e env) σ s Φ
def AC(A:AX)(env:Af)(m:A3)(es:List Expr)(ρ:AW)(σ:AA)(Φ:List AV→AA→Prop):Prop:=
 ∀s,St env ρ σ s.heap→uV A (spliced (Dp m (Bb es env))) σ s Φ
def TR(A:AX)(env:Af)(e:Expr)(ρ:AW)(σ:AA)(Φ:Bool→AA→Prop):Prop:=
 ∀s,St env ρ σ s.heap→Uj A (isTrue e env (A0 e env)) σ s Φ
def AF(A:AX)(f:Value)(args:List AV)(σ:AA)(Φ:AV→AA→Prop):Prop:=
 ∀s vs,G σ s.heap→VRs s.heap args vs→Ej A (call f vs) σ s Φ
def fp(env:Af):List AB:=env.locals::oc env
def fx(env:Af)(σ:AA):AA:=fun b=>if b∈fp env then some (.setI [])else σ b
inductive CL where
 |next|brk|cont
 |ret (v:AV)
def bK(h:A5):CL→Il→Prop
 |.next,.next=>True
 |.brk,.brk=>True
 |.cont,.cont=>True
 |.ret x,.ret v=>VR h x v
 |_,_=>False
inductive PX(env:Af)(σ:AA)(s:AN)(Φ:CL→AW→AA→Prop)(fl:Il)(s':AN):Prop
 |mk (af:CL) (ρ':AW) (σ':AA) (r:bK s'.heap af fl) (S:St env ρ' σ' s'.heap) (t:Aq (fx env σ) s (fx env σ') s') (q:Φ af ρ' σ')
def HO{a0 a1 a2 a3 m n}{c:Prop}:=@PX.casesOn a0 a1 a2 a3 m n (fun _=>c)
inductive PN(env:Af)(σ:AA)(s:AN)(Φ:AW→AA→Prop)(u:Unit)(s':AN):Prop
 |mk (ρ':AW) (σ':AA) (S:St env ρ' σ' s'.heap) (t:Aq (fx env σ) s (fx env σ') s') (q:Φ ρ' σ')
def Jm{a0 a1 a2 a3 m n}{c:Prop}:=@PN.casesOn a0 a1 a2 a3 m n (fun _=>c)
def I8(A:AX)(env:Af)(t:Sem Il)(ρ:AW)(σ:AA)(Φ:CL→AW→AA→Prop):Prop:=
 ∀s,St env ρ σ s.heap→AR (Ae pg w) A t (PX env σ s Φ) (fun m m=>False) s
abbrev EX(A:AX)(env:Af)(st:List DC)(ρ:AW)(σ:AA)(Φ:CL→AW→AA→Prop):Prop:=I8 A env (Fp st env) ρ σ Φ
abbrev Em(A:AX)(env:Af)(st:DC)(ρ:AW)(σ:AA)(Φ:CL→AW→AA→Prop):Prop:=I8 A env (GX st env) ρ σ Φ
def AQ(A:AX)(env:Af)(t:Value→Sem Unit)(x:AV)(ρ:AW)(σ:AA)(Φ:AW→AA→Prop):Prop:=
 ∀s v,St env ρ σ s.heap→VR s.heap x v→AR (Ae pg w) A (t v) (PN env σ s Φ) (fun m m=>False) s
theorem Aq.toF{env:Af}(x:Aq σ s σ' s'):Aq (fx env σ) s (fx env σ') s':=by
 refine⟨fun b o e n=>x.evo b o e ?_,fun b q=>?_,x.gens,x.os⟩
 ·unfold Internal.fx at n;split at n
  ·exact Bh n
  ·exact n
 ·unfold Internal.fx at q ⊢;split at q
  ·rename_i m;rw[if_pos m];exact .inl (!Ag _)
  ·rename_i m;rw[if_neg m];exact x.dom b q
structure Ah(A:AX)(n:Nat):Prop where
 depth:A.depth+2*n<recursionLimit
 units:A.units+16*n<H0
 handled:A.handled=none
theorem Ah.mono(r:Ah A n)(h:m≤n):Ah A m:=⟨by have:=r.depth;exact Cf o68 h this,by have:=r.units;exact Cf yN h this,r.handled⟩
theorem Ah.d(r:Ah A n)(h:0<n:=by omega):A.depth<recursionLimit:=by have:=r.depth;exact BS tA this
theorem Ah.u1(r:Ah A n)(h:0<n:=by omega):A.in1.units<H0:=by have:=r.units;show A.units+1<H0;exact BS wG h this
theorem Ah.deeper(r:Ah A (n+1))(env:Af):Ah (A.deeper env) n:=⟨by have:=r.depth;show A.depth+1+2*n<_;exact BS dO this,by have:=r.units;show A.units+3+16*n<_;exact BS mD this,r.handled⟩
theorem Ah.up{m n:Nat}(r:Ah A (n+1)){env:Af}(h:Nat.ble m n=true):Ah (A.deeper env) m:=(r.deeper env).mono (ld h)
theorem Ah.lo{m n:Nat}(r:Ah A n)(h:Nat.ble m n=true):Ah A m:=r.mono (ld h)
theorem Ej.mono(x:Ej A t σ s Φ)(k:∀v σ',Φ v σ'→Ψ v σ'):Ej A t σ s Ψ:=
 AT x (fun n n m=>BG m fun a b c d e f=>⟨a,b,c,d,e,k _ _ f⟩) fun n n e=>e
theorem EV.mono(x:EV A env e ρ σ Φ)(k:∀v σ',Φ v σ'→Ψ v σ'):EV A env e ρ σ Ψ:=
 fun s S=>(x s S).mono k
theorem G.push(g:G σ h)(o:C6):G σ (h.push o):=by
 refine⟨fun b n e=>BC _ (g.base b n e),fun a x e=>⟨(g.own a x e).1,?_⟩⟩;refine AI ((g.own a x e).2.there) fun ob q m=>?_;exact(g.own a x e).2.keeps ((BC _ q).trans q.symm) fun a o m m e m m=>BC _ e
theorem G.fresh(g:G σ h):σ h.objs.size=none∧hb.get? h.objs.size=none:=by
 constructor
 ·cases q:σ h.objs.size with
  |none=>rfl
  |some x=>
   refine AI ((g.own _ x q).2.there) fun m e n=>?_;exact absurd (DP e) (EP _)
 ·cases q:hb.get? h.objs.size with
  |none=>rfl
  |some o=>exact absurd (DP (g.base _ _ q)) (EP _)
theorem G.pushOwn(g:G σ h)(o:C6){x:AO}(m:Ee w (h.push o) h.objs.size x):G (upd σ h.objs.size x) (h.push o):=by
 refine⟨(g.push o).base,fun a y e=>?_⟩;unfold upd at e;split at e
 ·rename_i q;subst q;obtain rfl:=Ao e;exact⟨g.fresh.2,m⟩
 ·exact(g.push o).own a y e
theorem Aq.push(o:C6):Aq σ s σ {s with heap:=s.heap.push o}:=⟨.of_keeps fun m m e=>BC _ e,fun m e=>.inl e,rfl,rfl⟩
theorem GM(h:A5):h.get? h.objs.size=none:=Im (A9 _)
theorem Aq.pushOwn(o:C6)(x:AO):Aq σ s (upd σ s.heap.objs.size x) {s with heap:=s.heap.push o}:=
 ⟨.of_keeps fun _ _ e=>BC _ e,fun b q=>by
  unfold upd at q;split at q
  ·rename_i e;subst e;exact .inr (GM _)
  ·exact .inl q,rfl,rfl⟩
theorem Aq.toks(t:Nat):Aq σ s σ {s with toks:=t}:=⟨.refl _ _,fun m e=>.inl e,rfl,rfl⟩
theorem G.set(g:G σ h){a:AB}{x y:AO}(e:σ a=some x)(hs:FH a h h')(hy:Bt h h'→Ee w h' a y):G (upd σ a y) h':=by
 have na:=(g.own a x e).1;refine B3 ((g.own a x e).2.there) fun ob q c1 c2=>?_;have tk:Bt h h':=fun b o _ _ m c d=>(hs.2 b (by rintro rfl;obtain rfl:=Ao ((q.symm.trans m));exact c1 c _ _ d)).trans m;refine⟨fun b o m=>(hs.2 b (by rintro rfl;exact As ((na.symm.trans m)))).trans (g.base b o m),fun b z n=>?_⟩;unfold upd at n;split at n
 ·rename_i m;subst m;obtain rfl:=Ao n;exact⟨na,hy tk⟩
 ·rename_i m;exact⟨(g.own b z n).1,(g.own b z n).2.keeps (hs.2 b m) tk⟩
theorem Aq.set{a:AB}{x y:AO}(e:σ a=some x)(hs:FH a s.heap s'.heap)(h1:s'.gens=s.gens)(m:s'.os=s.os):Aq σ s (upd σ a y) s':=by
 refine⟨fun b o q n=>⟨o,(hs.2 b (by rintro rfl;exact Bh ((e.symm.trans n)))).trans q,.refl o⟩,fun b q=>?_,h1,m⟩;unfold upd at q;split at q
 ·rename_i e';subst e';exact .inl (by rw[e];exact Ag _)
 ·exact .inl q
end
set_option genInjectivity false
section
variable {σ σ' σ'':AA} {s s' s'':AN} {h h':A5} {A:AX} {env:Af} {ρ:AW}
def KO(A:AX)(f:Value→Sem Value)(x:AV)(σ:AA)(Φ:AV→AA→Prop):Prop:=
 ∀s u,G σ s.heap→VR s.heap x u→Ej A (f u) σ s Φ
def AM(A:AX)(f:Value→Value→Sem Value)(x y:AV)(σ:AA)(Φ:AV→AA→Prop):Prop:=
 ∀s u v,G σ s.heap→VR s.heap x u→VR s.heap y v→Ej A (f u v) σ s Φ
def BF(A:AX)(x:AV)(σ:AA)(Φ:Bool→AA→Prop):Prop:=
 ∀s u,G σ s.heap→VR s.heap x u→Uj A (truthy u) σ s Φ
abbrev hX(A:AX)(Φ:Bool→AA→Prop):AV→AA→Prop:=fun z σ=>BF A z σ Φ
abbrev qH(A:AX)(f:Value→Value→Sem Value)(x:AV)(Φ:AV→AA→Prop):AV→AA→Prop:=fun y σ=>AM A f x y σ Φ
abbrev XS(A:AX)(env:Af)(r:Expr)(ρ:AW)(f:Value→Value→Sem Value)(Φ:AV→AA→Prop):AV→AA→Prop:=fun x σ=>EV A env r ρ σ (qH A f x Φ)
abbrev u0(A:AX)(f:Value→Sem Value)(Φ:AV→AA→Prop):AV→AA→Prop:=fun x σ=>KO A f x σ Φ
abbrev Zbg(A:AX)(env:Af)(b e:Expr)(ρ:AW)(Φ:AV→AA→Prop):Bool→AA→Prop:=fun c σ=>if c then EV A env b ρ σ Φ else EV A env e ρ σ Φ
abbrev Vo(Φ:List AV→AA→Prop)(x:AV):List AV→AA→Prop:=fun xs σ=>Φ (x::xs) σ
abbrev rB(A:AX)(env:Af)(m:A3)(rest:List Expr)(ρ:AW)(Φ:List AV→AA→Prop):AV→AA→Prop:=fun x σ=>AC A env m rest ρ σ (Vo Φ x)
abbrev rL(Φ:AV→AA→Prop):List AV→AA→Prop:=fun xs σ=>xs.length≤1000∧Φ (.tup xs) σ
abbrev rQ(Φ:AV→AA→Prop):List AV→AA→Prop:=fun xs σ=>xs.length≤1000∧∀a,σ a=none→hb.get? a=none→Φ (.ref a) (upd σ a (.list xs))
theorem DI(hv:ρ x=some n)(hl:env.kindOf x=some .local)(q:Φ n σ)
  (hk:autoParam (env.scope.kind=.function) aR)(hd:autoParam ((x==("__debug__":Str))=false) aD):EV A env (.Name x a0) ρ σ Φ:=fun s S=>by
 refine AI S.l.ns fun m hn hm=>?_;refine AI (hm x n hv hl) fun v e r=>?_;exact Nk (Lr hk hl hn e ⟨n,σ,r,S.g,.refl _ _,q⟩) hd
theorem EV.cell(hv:ρ x=some m)(n:env.kindOf x=some .cell)(q:Φ m σ)
  (hk:autoParam (env.scope.kind=.function) aR)(hd:autoParam ((x==("__debug__":Str))=false) aD):EV A env (.Name x a0) ρ σ Φ:=fun s S=>by
 refine FN (S.l.cellv x m hv n) fun c v e hc r=>?_;exact Nk (wpAny_loadName_cell hk n e hc ⟨m,σ,r,S.g,.refl _ _,q⟩) hd
theorem NP{x:Str}{m:A3}{v:Value}{Φ:AV→AA→Prop}(B:Aj)(e:Co (hd.heap_1 w.params) Bk x=some (some v))(q:Φ (.fix v) σ)
  (n:autoParam (env.kindOf x=some .globalImplicit) aR)(hk:autoParam (env.scope.kind=.function) aR)(hg:autoParam (env.globals=Bk) aR)
  (hd:autoParam ((x==("__debug__":Str))=false) aD):EV A env (.Name x m) ρ σ Φ:=fun s S=>by
 refine Ei B.T fun p loose mg mb T=>?_;exact YI hk n (i3 (hg▸T.g.keeps S.g.base) (mg_of B.K T.g e) ⟨_,σ,.fix v,S.g,.refl _ _,q⟩) hd
theorem Fl(B:Aj)(e:Co (hd.heap_1 w.params) Bk x=some none)(n:Gy x=some v)(q:Φ (.fix v) σ)
  (hn:autoParam (x≠"__name__") aD)(hx:autoParam (env.kindOf x=some .globalImplicit) aR)(hk:autoParam (env.scope.kind=.function) aR)(hg:autoParam (env.globals=Bk) aR)(m:autoParam (env.builtins=Tj) aR)
  (hd:autoParam ((x==("__debug__":Str))=false) aD):EV A env (.Name x a0) ρ σ Φ:=fun s S=>by
 refine Ei B.T fun p loose mg mb T=>?_;exact YI hk hx (i4 (hg▸T.g.keeps S.g.base) (mg_none_of B.K T.g e) (m▸T.b.keeps S.g.base) ((T.builtins x hn).trans n) ⟨_,σ,.fix v,S.g,.refl _ _,q⟩) hd
theorem BB{i:Int}{k:Nat}{m:A3}{Φ:AV→AA→Prop}(q:Φ (.int i) σ):EV A env (.Constant (.int i) k m) ρ σ Φ:=
 fun s S=>wpAny_Constant_int ⟨_,σ,.int _ _,S.g,.toks _,q⟩
theorem DJ(q:Φ (.str x) σ):EV A env (.Constant (.str x) k m) ρ σ Φ:=
 fun s S=>Tk ⟨_,σ,.str _ _,S.g,.toks _,q⟩
theorem Ln(q:Φ (.bool b) σ):EV A env (.Constant (.bool b) k m) ρ σ Φ:=
 fun s S=>wpAny_Constant_bool ⟨_,σ,.bool _,S.g,.refl _ _,q⟩
theorem Xm(q:Φ .none σ):EV A env (.Constant .none k m) ρ σ Φ:=
 fun s S=>wpAny_Constant_none ⟨_,σ,.none,S.g,.refl _ _,q⟩
theorem CH{l r:Expr}{op:Operator}{b3:A3}{Φ:AV→AA→Prop}
  (k:EV A env l ρ σ (XS A env r ρ (Ke op) Φ)):EV A env (.BinOp l op r b3) ρ σ Φ:=fun s S=>
 wpAny_BinOp (AT (k s S) (fun u s₁ b2=>BG b2 fun x b4 a5 n m a7=>AT (a7 s₁ (S.step n m)) (fun v s₂ b0=>BG b0 fun y σ₂ a9 a4 a0 a3=>AT (a3 s₂ u v a4 (a5.mono (a0.evo.tup n)) a9) (fun z b5 b1=>BG b1 fun z' a1 a8 a6 a2 q=>⟨z',a1,a8,a6,m.trans (a0.trans a2),q⟩) fun zz zz e=>e) fun zz zz e=>e) fun zz zz e=>e)
theorem Nf
  (k:EV A env l ρ σ (XS A env r ρ (EC op) Φ))(hm:autoParam (YJ op r=false) aR):
  EV A env (.Compare l [op] [r] b5) ρ σ Φ:=fun s S=>
 wpAny_Compare1 (AT (k s S) (fun u s₁ b0=>BG b0 fun x b3 a5 n m a7=>AT (a7 s₁ (S.step n m)) (fun v s₂ b1=>BG b1 fun y σ₂ a9 a4 a0 a3=>AT (a3 s₂ u v a4 (a5.mono (a0.evo.tup n)) a9) (fun z b4 b2=>BG b2 fun z' a1 a8 a6 a2 q=>⟨z',a1,a8,a6,m.trans (a0.trans a2),q⟩) fun zz zz e=>e) fun zz zz e=>e) fun zz zz e=>e) hm
theorem Bj
  (k:EV A env l ρ σ (XS A env r ρ (EC op) (hX A Φ)))(hm:autoParam (YJ op r=false) aR):
  TR A env (.Compare l [op] [r] c4) ρ σ Φ:=fun s S=>
 wpAny_isTrue_Compare1 (AT (k s S) (fun u s₁ b5=>BG b5 fun x c2 a7 n m a9=>AT (a9 s₁ (S.step n m)) (fun v s₂ b6=>BG b6 fun y σ₂ b3 a6 a0 a4=>AT (a4 s₂ u v a6 (a7.mono (a0.evo.tup n)) b3) (fun z a2 b7=>BG b7 fun z' b4 b1 a8 a3 a5=>AT (a5 a2 z a8 b1) (fun b c3 c1=>FD c1 fun a1 b0 b2 q=>⟨a1,b0,m.trans (a0.trans (a3.trans b2)),q⟩) fun zz zz e=>e) fun zz zz e=>e) fun zz zz e=>e) fun zz zz e=>e) hm
theorem QD(k:TR A env x ρ σ fun b m=>Φ (not (b)) m):TR A env (.UnaryOp .Not x a0) ρ σ Φ:=fun s S=>
 wpAny_isTrue_Not (AT (k s S) (fun b s₁ n=>FD n fun m g t q=>⟨m,g,t,q⟩) fun zz zz e=>e)
theorem Py(k:EV A env e ρ σ (hX A Φ))
  (he:∀env m,isTrue e env m=(do let v ←m;Cp e.pos;CW [v] (truthy v)):=by intro n n;rfl):TR A env e ρ σ Φ:=fun s S=>
 wpAny_isTrue_value (AT (k s S) (fun u s₁ a7=>BG a7 fun x a8 a1 a3 a2 a4=>AT (a4 s₁ u a3 a1) (fun b s₂ a6=>FD a6 fun σ₂ a0 a5 q=>⟨σ₂,a0,a2.trans a5,q⟩) fun n n e=>e) fun n n e=>e) (he _ _)
def Cg(A:AX)(env:Af)(m:BoolOp)(es:List Expr)(ρ:AW)(σ:AA)(Φ:Bool→AA→Prop):Prop:=
 ∀s,St env ρ σ s.heap→Uj A (allTrue m es env) σ s Φ
theorem Lm{m:BoolOp}(k:Cg A env m es ρ σ Φ):TR A env (.BoolOp m es n) ρ σ Φ:=
 fun s S=>wpAny_isTrue_BoolOp (k s S)
theorem Zdx(q:Φ true σ):Cg A env .And [] ρ σ Φ:=fun s S=>wpAny_allTrue_And_nil ⟨σ,S.g,.refl _ _,q⟩
theorem NK(q:Φ false σ):Cg A env .Or [] ρ σ Φ:=fun s S=>wpAny_allTrue_Or_nil ⟨σ,S.g,.refl _ _,q⟩
abbrev tQ(A:AX)(env:Af)(rest:List Expr)(ρ:AW)(Φ:Bool→AA→Prop):Bool→AA→Prop:=fun b σ=>if b then Cg A env .And rest ρ σ Φ else Φ false σ
abbrev sU(A:AX)(env:Af)(rest:List Expr)(ρ:AW)(Φ:Bool→AA→Prop):Bool→AA→Prop:=fun b σ=>if b then Φ true σ else Cg A env .Or rest ρ σ Φ
theorem iL(k:TR A env x ρ σ (tQ A env rest ρ Φ)):
  Cg A env .And (x::rest) ρ σ Φ:=fun s S=>wpAny_allTrue_And_cons (AT (k s S) (fun b s₁ a1=>FD a1 fun m g t q=>by
   cases b with
   |false=>exact⟨m,g,t,q⟩
   |true=>exact AT (q s₁ (S.step g t)) (fun b s₂ a2=>FD a2 fun σ₂ n a0 q=>⟨σ₂,n,t.trans a0,q⟩) fun zz zz e=>e) fun zz zz e=>e)
theorem HN(k:TR A env x ρ σ (sU A env rest ρ Φ)):
  Cg A env .Or (x::rest) ρ σ Φ:=fun s S=>wpAny_allTrue_Or_cons (AT (k s S) (fun b s₁ a1=>FD a1 fun m g t q=>by
   cases b with
   |true=>exact⟨m,g,t,q⟩
   |false=>exact AT (q s₁ (S.step g t)) (fun b s₂ a2=>FD a2 fun σ₂ n a0 q=>⟨σ₂,n,t.trans a0,q⟩) fun zz zz e=>e) fun zz zz e=>e)
theorem iV{op a1:CmpOp}
  (k:EV A env l ρ σ fun x a6=>EV A env r ρ a6 fun y σ₂=>AM A (EC op) x y σ₂ fun c a2=>BF A c a2 fun b a0=>
   if b then EV A env z ρ a0 fun u a3=>AM A (EC a1) y u a3 fun c' a5=>BF A c' a5 Φ else Φ false a0)
  (hm:autoParam (YJ a1 z=false) aR):TR A env (.Compare l [op,a1] [r,z] c2) ρ σ Φ:=fun s S=>by
 show AR _ _ (do testChain c2 (←A0 l env) [op,a1] [A0 r env,markedBehindIn a1 z (A0 z env)]) _ _ _
 rw[markedBehindIn_of_false hm];refine AE (AT (k s S) (fun u s₁ e6=>BG e6 fun x a6 c8 b0 a8 e0=>?_) fun n n e=>e);show AR _ _ (do
  let rv ←CW [u] (A0 r env)
  Cp c2
  let c ←CW [u,rv] (EC op u rv)
  Ls [u,rv] [c]
  if ←CW [c,rv] (truthy c)then testChain c2 rv [a1] [A0 z env]else pure false) _ _ _
 refine AE (CI (AT (e0 s₁ (S.step b0 a8)) (fun v s₂ f1=>BG f1 fun y σ₂ b3 a7 b7 e3=>?_) fun n n e=>e));refine AE (EQ (AE (CI (AT (e3 s₂ u v a7 (c8.mono (b7.evo.tup b0)) b3) (fun c c4 e8=>BG e8 fun c' a2 c9 b5 a9 e4=>?_) fun n n e=>e))));have f5:∀(vs ks:List Value)(Q:Unit→AN→Prop)(s:AN),Q Unit.unit s→AR (Ae pg w) A (Ls vs ks) Q (fun n n=>False) s:=fun vs ks Q s q Γ p n=>by rw[Sem.wp_release];exact q
 refine AE (f5 _ _ _ _ (AE (CI (AT (e4 c4 c b5 c9) (fun b d6 e9=>FD e9 fun a0 a4 b2 b6=>?_) fun n n e=>e))));have T:=a8.trans (b7.trans (a9.trans b2));cases b with
 |false=>exact Ad ⟨a0,a4,T,b6⟩
 |true=>
  refine AE (CI (AT (b6 d6 (S.step a4 T)) (fun z' b1 f2=>BG f2 fun u' a3 d2 d5 b4 c5=>?_) fun n n e=>e));have c3:VR b1.heap y v:=((b3.mono (a9.evo.tup a7)).mono (b2.evo.tup b5)).mono (b4.evo.tup a4);refine AE (EQ (AE ?_));have f4:∀(vs:List Value)(m:Sem Value)(Q:Value→AN→Prop)(s:AN),AR (Ae pg w) A m Q (fun n n=>False) s→AR (Ae pg w) A (operate vs m) Q (fun n n=>False) s:=fun vs m Q s q Γ p e7=>by rw[Sem.wp_operate];exact q Γ p e7
  refine f4 _ _ _ _ (AT (c5 b1 v z' d5 c3 d2) (fun d e1 f3=>BG f3 fun d' a5 e5 d4 d3 d1=>?_) fun n n e=>e);exact CI (AT (d1 e1 d d4 e5) (fun b g0 f0=>FD f0 fun c1 e2 c6 q=>⟨c1,e2,T.trans (b4.trans (d3.trans c6)),q⟩) fun n n e=>e)
theorem NY{t b e:Expr}{a2:A3}{Φ:AV→AA→Prop}(k:TR A env t ρ σ (Zbg A env b e ρ Φ)):
  EV A env (.IfExp t b e a2) ρ σ Φ:=fun s S=>wpAny_IfExp (AT (k s S) (fun c s₁ a0=>FD a0 fun a3 g t q=>by
   cases c<;>exact AT (q s₁ (S.step g t)) (fun v s₂ a1=>BG a1 fun av σ₂ r m n q=>⟨av,σ₂,r,m,t.trans n,q⟩) fun zz zz e=>e) fun zz zz e=>e)
theorem Px{op:UnaryOp}{x:Expr}{a6:A3}{Φ:AV→AA→Prop}(k:EV A env x ρ σ (u0 A (unaryOp op) Φ)):EV A env (.UnaryOp op x a6) ρ σ Φ:=fun s S=>
 wpAny_UnaryOp (AT (k s S) (fun u s₁ a5=>BG a5 fun x a7 a0 a2 a1 a3=>AT (a3 s₁ u a2 a0) (fun v s₂ m=>BG m fun av σ₂ r n a4 q=>⟨av,σ₂,r,n,a1.trans a4,q⟩) fun zz zz e=>e) fun zz zz e=>e)
theorem BO(q:Φ b σ):BF A (.bool b) σ Φ:=fun s u g r=>by
 obtain rfl:=QC r;exact QJ ⟨σ,g,.refl _ _,q⟩
theorem AC.nil(q:Φ [] σ):AC A env m [] ρ σ Φ:=fun s S=>Tm ⟨[],σ,.nil,S.g,.refl _ _,q⟩
theorem AC.cons(k:EV A env e ρ σ (rB A env a7 rest ρ Φ))
  (he:autoParam (∀env,Bb (e::rest) env=(false,A0 e env)::Bb rest env) aI):AC A env a7 (e::rest) ρ σ Φ:=fun s S=>
 Tn (AT (k s S) (fun v s₁ a2=>BG a2 fun x a8 a3 n m a5=>AT (a5 s₁ (S.step n m)) (fun vs s₂ a4=>GV a4 fun xs σ₂ a6 a1 a0 q=>
  ⟨x::xs,σ₂,.cons (a3.mono (a0.evo.tup n)) a6,a1,m.trans a0,q⟩) fun zz zz e=>e) fun zz zz e=>e) (he _)
theorem Bw(x:AC A env a1 es ρ σ (rL Φ)):
  EV A env (.Tuple es k a1) ρ σ Φ:=fun s S=>
 wpAny_Tuple (AT (x s S) (fun vs s₁ m=>GV m fun xs a0 r g t m=>AL m fun hl q=>by
  refine⟨by rw[←r.length,CJ];exact ln hl rfl,.tup xs,a0,.tup (B2 _ rfl) (r.mono fun n n n n e n n=>BC _ e),g.push _,t.trans (.push _),q⟩) fun n n e=>e)
theorem Da(x:AC A env a1 es ρ σ (rQ Φ)):
  EV A env (.List es a1) ρ σ Φ:=fun s S=>
 wpAny_List (AT (x s S) (fun vs s₁ m=>GV m fun xs a0 r g t m=>AL m fun hl q=>by
  refine⟨by rw[←r.length,CJ];exact ln hl rfl,.ref _,upd a0 s₁.heap.objs.size (.list xs),.ref _,g.pushOwn _ ⟨_,_,B2 _ rfl,r.mono fun n n n n e n n=>BC _ e⟩,t.trans (.pushOwn _ _),q _ g.fresh.1 g.fresh.2⟩) fun n n e=>e)
theorem Ax(q:Φ .next ρ σ):EX A env [] ρ σ Φ:=fun s S=>YK ⟨.next,ρ,σ,trivial,S,.refl _ _,q⟩
def pE(A:AX)(env:Af)(rest:List DC)(Φ:CL→AW→AA→Prop):CL→AW→AA→Prop
 |.next,ρ,σ=>EX A env rest ρ σ Φ
 |f,ρ,σ=>Φ f ρ σ
theorem AJ{st:DC}(k:Em A env st ρ σ (pE A env rest Φ)):
  EX A env (st::rest) ρ σ Φ:=fun s S=>QK (AT (k s S) (fun fl s₁ a5=>HO a5 fun f a1 a2 r n m q=>by
   cases fl<;>cases f<;>first
    |exact r.elim
    |exact AT (q s₁ n) (fun fl s₂ a6=>HO a6 fun f a0 σ₂ r a3 a4 q=>⟨f,a0,σ₂,r,a3,m.trans a4,q⟩) fun zz zz e=>e
    |exact⟨_,a1,a2,r,n,m,q⟩) fun zz zz e=>e)
abbrev ur(ρ:AW)(Φ:CL→AW→AA→Prop):AV→AA→Prop:=fun v σ=>Φ (.ret v) ρ σ
abbrev oi(ρ:AW)(Φ:CL→AW→AA→Prop):AV→AA→Prop:=fun _ σ=>Φ .next ρ σ
abbrev y9(Φ:CL→AW→AA→Prop):AW→AA→Prop:=fun ρ σ=>Φ .next ρ σ
abbrev Zae(A:AX)(env:Af)(b e:List DC)(ρ:AW)(Φ:CL→AW→AA→Prop):Bool→AA→Prop:=fun c σ=>if c then EX A env b ρ σ Φ else EX A env e ρ σ Φ
theorem CD(k:EV A env e ρ σ (ur ρ Φ)):Em A env (.Return (some e) a0) ρ σ Φ:=fun s S=>
 wpAny_Return_some (AT (k s S) (fun v s₁ n=>BG n fun x m r g t q=>⟨.ret x,ρ,m,r,S.step g t,t.toF,q⟩) fun zz zz e=>e)
theorem CP{t:Expr}{b e:List DC}{a3:A3}{Φ:CL→AW→AA→Prop}(k:TR A env t ρ σ (Zae A env b e ρ Φ)):
  Em A env (.If t b e a3) ρ σ Φ:=fun s S=>wpAny_If (AT (k s S) (fun c s₁ a1=>FD a1 fun a4 g t q=>by
   cases c<;>exact AT (q s₁ (S.step g t)) (fun fl s₂ a2=>HO a2 fun f m σ₂ r n a0 q=>⟨f,m,σ₂,r,n,t.toF.trans a0,q⟩) fun zz zz e=>e) fun zz zz e=>e)
theorem Bg(k:EV A env e ρ σ (oi ρ Φ))
  (hi:autoParam (interactive env=false) aR)(hs:autoParam (QL e none n.line env=pure false) aR):Em A env (.Expr e n) ρ σ Φ:=fun s S=>by
 show AR _ _ (GX _ _) _ _ _;rw[exec_Expr env e n hi hs];exact AE (EQ (AE (AT (k s S) (fun v s₁ a0=>BG a0 fun x m r g t q=>wpAny_dropValue ⟨.next,ρ,m,trivial,S.step g t,t.toF,q⟩) fun zz zz e=>e)))
abbrev put(ρ:AW)(x:Str)(v:AV):AW:=fun y=>if y=x then some v else ρ y
theorem rF(h:x∈fp env):fx env σ x≠none:=by unfold fx;rw[if_pos h];exact Ag _
theorem Aq.frame(ha:a∈fp env)(hs:FH a s.heap s'.heap)(h1:s'.gens=s.gens)(m:s'.os=s.os):Aq (fx env σ) s (fx env σ) s':=by
 refine⟨fun b o q n=>⟨o,(hs.2 b ?_).trans q,.refl o⟩,fun b q=>.inl q,h1,m⟩;rintro rfl;exact rF ha n
theorem G.frame(g:G σ h)(n1:σ a=none)(n2:hb.get? a=none)(hs:FH a h h')(hd:∃o,h.get? a=some o∧∀items n,o.data≠.seq items n):G σ h'∧Bt h h':=by
 refine AI hd fun oa ha m=>?_;have tk:Bt h h':=fun b o items n q c d=>(hs.2 b (by rintro rfl;obtain rfl:=Ao ((ha.symm.trans q));exact m items n d)).trans q;refine⟨⟨fun b o q=>(hs.2 b (by rintro rfl;exact As ((n2.symm.trans q)))).trans (g.base b o q),fun b x e=>⟨(g.own b x e).1,(g.own b x e).2.keeps (hs.2 b (by rintro rfl;exact As ((n1.symm.trans e)))) tk⟩⟩,tk⟩
theorem io(hl:env.kindOf x=some .local)(q:Φ (put ρ x av) σ)(hk:autoParam (env.scope.kind=.function) aR):
  AQ A env (fun v=>storeName env x v) av ρ σ Φ:=fun s v S r=>by
 refine AI S.l.ns fun m hn hm=>?_;refine YL hl hn (fun h' a1 hs=>?_) (by rw[hk];rfl);refine Pf (id hn) fun o es ep ho hd zz=>?_;refine AL (S.g.frame S.nL.1 S.nL.2 hs ⟨o,ho,fun zz zz q=>by rw[hd]at q;cases q⟩) fun g' tk=>?_;refine⟨put ρ x av,σ,⟨g',⟨⟨_,a1,fun y n e k=>?_⟩,fun c hc=>?_,fun y n e k=>?_,S.l.apart,S.l.apart2⟩,S.nL,S.nC⟩,.frame (.head _) hs rfl rfl,q⟩
 ·unfold put at e;by_cases hy:y=x
  ·subst hy;rw[if_pos rfl]at e ⊢;obtain rfl:=Ao e;exact⟨v,rfl,r.mono tk⟩
  ·rw[if_neg hy]at e ⊢;refine AI (hm y n e k) fun v' e' r'=>?_;exact⟨v',e',r'.mono tk⟩
 ·refine Cr (S.l.cell c hc) fun v' oc a0 c1=>?_;exact⟨v',oc,(hs.2 c (by rintro rfl;exact S.l.apart2 hc)).trans a0,c1⟩
 ·unfold put at e;by_cases hy:y=x
  ·subst hy;exact(nomatch (Ao ((hl.symm.trans k))))
  ·rw[if_neg hy]at e;refine OJ (S.l.cellv y n e k) fun c v' e1 oc a0 c2 r'=>?_;exact⟨c,v',e1,⟨oc,(hs.2 c (by rintro rfl;exact S.l.apart2 (J0 e1 k))).trans a0,c2⟩,r'.mono tk⟩
theorem Zd2(hl:env.kindOf x=some .cell)(hc:(env.cells.lookup x).isSome=true)(q:Φ (put ρ x av) σ)(hk:autoParam (env.scope.kind=.function) aR):
  AQ A env (fun v=>storeName env x v) av ρ σ Φ:=fun s v S r=>by
 refine AY (Lu.mp hc) fun c hc=>?_;have n:=J0 hc hl;refine Cr (S.l.cell c n) fun v0 oc a5 c2=>?_;refine wpAny_storeName_cell hk hl hc ⟨oc,a5,c2⟩ fun h' a3 hs=>?_;refine AL (S.g.frame (S.nC c n).1 (S.nC c n).2 hs ⟨oc,a5,fun zz zz q=>!(nomatch ((c2.symm.trans q)))⟩) fun g' tk=>?_;refine AI S.l.ns fun m hn hm=>?_;have a7:env.locals≠c:=by rintro e;exact S.l.apart2 (e▸n)
 refine⟨put ρ x av,σ,⟨g',⟨⟨m,hn.sameBut hs a7,fun y a0 e k=>?_⟩,fun c' a2=>?_,fun y a0 e k=>?_,S.l.apart,S.l.apart2⟩,S.nL,S.nC⟩,.frame (.tail _ n) hs rfl rfl,q⟩
 ·unfold put at e;by_cases hy:y=x
  ·subst hy;exact(nomatch (Ao ((hl.symm.trans k))))
  ·rw[if_neg hy]at e;refine AI (hm y a0 e k) fun v' e' r'=>?_;exact⟨v',e',r'.mono tk⟩
 ·by_cases hq:c'=c
  ·subst hq;exact⟨_,a3⟩
  ·refine Cr (S.l.cell c' a2) fun v2 a6 a1 c3=>?_;exact⟨v2,a6,(hs.2 c' hq).trans a1,c3⟩
 ·unfold put at e;by_cases hy:y=x
  ·subst hy;obtain rfl:=Ao (((if_pos rfl).symm.trans e));exact⟨c,v,hc,a3,r.mono tk⟩
  ·rw[if_neg hy]at e;refine OJ (S.l.cellv y a0 e k) fun c' v' e1 a8 a4 c4 r'=>?_;exact⟨c',v',e1,⟨a8,(hs.2 c' (by rintro rfl;exact hy (Vl S.l.apart e1 k hc hl))).trans a4,c4⟩,r'.mono tk⟩
theorem Nc(n:env.kindOf x=some .local)(q:Φ (put ρ x av) σ)(m:autoParam (env.scope.kind=.function) aR):
  AQ A env (assign (.Name x a0) env) av ρ σ Φ:=fun s v S r=>QM (io n q m s v S r)
theorem AQ.cell(hl:env.kindOf x=some .cell)(m:(env.cells.lookup x).isSome=true)(q:Φ (put ρ x av) σ)(n:autoParam (env.scope.kind=.function) aR):
  AQ A env (assign (.Name x a0) env) av ρ σ Φ:=fun s v S r=>QM (Zd2 hl m q n s v S r)
theorem GW(n:env.kindOf x=some .local)(q:Φ (put ρ x av) σ)(m:autoParam (env.scope.kind=.function) aR):
  AQ A env (fun v=>bindName env x v) av ρ σ Φ:=fun s v S r=>wpAny_bindName (io n q m s v S r)
def Az(A:AX)(env:Af)(ts:List (Value→Sem Unit))(xs:List AV)(ρ:AW)(σ:AA)(Φ:AW→AA→Prop):Prop:=
 ∀s vs,St env ρ σ s.heap→VRs s.heap xs vs→AR (Ae pg w) A (assignInOrder ts vs) (PN env σ s Φ) (fun m m=>False) s
theorem St.tupF(S:St env ρ σ s.heap)(t:Aq (fx env σ) s (fx env σ') s'):Bt s.heap s'.heap:=fun a o items n e c d=>by
 have n0:fx env σ a=none:=by
  unfold fx;rw[if_neg]
  ·exact S.g.notTup e c d
  ·intro hm;rcases A7.mp hm with rfl|hm
   ·refine J3 S.l.ns fun m o' es ep ho hd zz zz=>?_;obtain rfl:=Ao ((e.symm.trans ho));exact(nomatch ((d.symm.trans hd)))
   ·refine Cr (S.l.cell a hm) fun v o' ho hd=>?_;obtain rfl:=Ao ((e.symm.trans ho));exact(nomatch ((d.symm.trans hd)))
 refine AI (t.evo a o e n0) fun o' e' f=>?_;rw[e',f.of_ne (fun zz zz q=>!(nomatch ((d.symm.trans q))))]
theorem Dm(q:Φ ρ σ):Az A env [] [] ρ σ Φ:=fun s vs S r=>by
 cases r;exact Ad ⟨ρ,σ,S,.refl _ _,q⟩
abbrev usK(A:AX)(env:Af)(ts:List (Value→Sem Unit))(xs:List AV)(Φ:AW→AA→Prop):AW→AA→Prop:=fun ρ σ=>Az A env ts xs ρ σ Φ
abbrev asK(A:AX)(env:Af)(t:Expr)(ρ:AW)(Φ:CL→AW→AA→Prop):AV→AA→Prop:=fun v σ=>AQ A env (assign t env) v ρ σ (y9 Φ)
theorem BZ{t:Value→Sem Unit}{ts:List (Value→Sem Unit)}{x:AV}{xs:List AV}{Φ:AW→AA→Prop}(k:AQ A env t x ρ σ (usK A env ts xs Φ)):
  Az A env (t::ts) (x::xs) ρ σ Φ:=fun s vs S r=>by
 cases r with
 |cons r1 r2=>
  change AR _ _ (CW _ (t _)>>=fun zz=>assignInOrder ts _) _ _ _;exact AE (CI (AT (k s _ S r1) (fun zz s₁ a3=>Jm a3 fun a4 a6 a1 m q=>AT (q s₁ _ a1 (r2.mono (S.tupF m))) (fun zz s₂ a5=>Jm a5 fun n σ₂ a0 a2 q=>⟨n,σ₂,a0,m.trans a2,q⟩) fun zz zz e=>e) fun zz zz e=>e))
inductive Pr(σ:AA):AV→List AV→Prop
 |tup (xs:List AV):Pr σ (.tup xs) xs
 |list {l:AB} {xs:List AV}:σ l=some (.list xs)→Pr σ (.ref l) xs
theorem Zm(hh:A.handled=none)(g:G σ s.heap)(q:Pr σ x xs)(r:VR s.heap x v)(hn:n=xs.length)
  (k:∀h' vs,(∀b o,s.heap.get? b=some o→h'.get? b=some o)→VRs h' xs vs→Q vs {s with heap:=h'}):AR (Ae pg w) A (unpackItems v n none) Q (fun zz zz=>False) s:=by
 have up:∀h',i5 s.heap.objs.size s.heap h'→∀b o,s.heap.get? b=some o→h'.get? b=some o:=fun h' e b o q=>e b o (Bp (DP q)) q;cases q with
 |tup=>
  cases r with
  |@tup a _ items m e rs=>
   have hl:n=items.size:=by rw[hn,rs.length,Gz]
   subst hl;exact unpackItems_tuple hh ⟨_,e,rfl,m,rfl⟩ fun h' e=>k h' _ (up h' e) (rs.mono fun zz zz zz zz q zz zz=>up h' e _ _ q)
 |list hl=>
  obtain rfl:=Bi r;refine Cn ((g.own _ _ hl).2) fun items m e rs=>?_;have hl:n=items.size:=by rw[hn,rs.length,Gz]
  subst hl;exact kun_itemsOf hh ⟨_,e,rfl,m,rfl⟩ fun h' e=>k h' _ (up h' e) (rs.mono fun zz zz zz zz q zz zz=>up h' e _ _ q)
theorem G.keeps(g:G σ h)(k:∀b o,h.get? b=some o→h'.get? b=some o):G σ h':=
 ⟨fun b o e=>k _ _ (g.base b o e),fun a x e=>⟨(g.own a x e).1,by
  refine AI ((g.own a x e).2.there) fun n q m=>?_;exact(g.own a x e).2.keeps ((k _ _ q).trans q.symm) fun a o m m e m m=>k _ _ e⟩⟩
theorem Aq.keeps(k:∀b o,s.heap.get? b=some o→s'.heap.get? b=some o)(n:s'.gens=s.gens)(m:s'.os=s.os):Aq σ s σ s':=⟨.of_keeps k,fun zz e=>.inl e,n,m⟩
theorem FB{m:List Expr}{x1:Nat}{a5:A3}{x:AV}{xs:List AV}{Φ:AW→AA→Prop}(hh:A.handled=none)(q:Pr σ x xs)(hn:xs.length=m.length)
  (k:Az A env ((YM m env).map (·.2)) xs ρ σ Φ)(a0:autoParam ((YM m env).findIdx? (·.1)=none) aR)(a1:autoParam ((YM m env).length=m.length) aR):
  AQ A env (assign (.Tuple m x1 a5) env) x ρ σ Φ:=fun s v S r=>by
 rw[arm_assign_Tuple];refine AE (EQ ?_);unfold unpack;rw[a0,a1];refine AE (CI (Zm hh S.g q r hn.symm fun h' vs kk rs=>?_));have S':St env ρ σ h':=S.step (s':={s with heap:=h'}) (S.g.keeps kk) (.keeps kk rfl rfl);exact AT (k _ vs S' rs) (fun zz s₂ a4=>Jm a4 fun n σ₂ a2 a3 q=>⟨n,σ₂,a2,((Aq.keeps (s':={s with heap:=h'}) kk rfl rfl).toF).trans a3,q⟩) fun zz zz e=>e
theorem BR(k:EV A env m ρ σ (asK A env t ρ Φ))
  (hs:autoParam (swapsWithSole [t] m a6.line env=pure false) aR)(hw:autoParam (swappedStores [t] m env=pure none) aR)(ha:autoParam ((YM [t] env).map (·.2)=[assign t env]) aR):
  Em A env (.Assign [t] m a6) ρ σ Φ:=fun s S=>
 wpAny_Assign_stores (AT (k s S) (fun v s₁ a4=>BG a4 fun x a7 r g n a1=>by
  rw[ha];exact AT (a1 s₁ v (S.step g n) r) (fun _ s₂ a5=>Jm a5 fun a0 σ₂ a2 a3 q=>⟨.next,a0,σ₂,trivial,a2,n.toF.trans a3,q⟩) fun zz zz e=>e) fun zz zz e=>e) hs hw
theorem VRs.reverse:∀{xs:List AV}{vs:List Value},VRs h xs vs→VRs h xs.reverse vs.reverse
 :=fun q=>q.ind (P:=fun xs vs=>VRs _ xs.reverse vs.reverse) .nil fun a n m=>by rw[YN,YN];exact m.append (.one a)
theorem NR{a3:List Expr}{k0:Nat}{a2:A3}{m:Expr}{b0:A3}{names:List Str}{Φ:CL→AW→AA→Prop}(hh:A.handled=none)
  (hw:swappedStores [.Tuple a3 k0 a2] m env=pure (some names))
  (k:EV A env m ρ σ fun v a0=>∃xs,Pr a0 v xs∧xs.length=names.length∧Az A env (names.reverse.map fun n=>fun v=>bindName env n v) xs.reverse ρ a0 fun a1 σ₂=>Φ .next a1 σ₂)
  (hs:autoParam (swapsWithSole [.Tuple a3 k0 a2] m b0.line env=pure false) aR):
  Em A env (.Assign [.Tuple a3 k0 a2] m b0) ρ σ Φ:=fun s S=>
 Assign_Tuple_swapped (AT (k s S) (fun v s₁ a5=>BG a5 fun x a0 r g a4 a5=>B3 a5 fun xs hx hn a6=>Zm hh g hx r hn.symm fun h' vs kk rs=>by
   have a8:=S.step g a4;have S':St env ρ a0 h':=a8.step (s':={s₁ with heap:=h'}) (g.keeps kk) (.keeps kk rfl rfl);exact AT (a6 _ _ S' rs.reverse) (fun _ s₂ b1=>Jm b1 fun a1 σ₂ a7 a9 q=>⟨.next,a1,σ₂,trivial,a7,a4.toF.trans (((Aq.keeps (s':={s₁ with heap:=h'}) kk rfl rfl).toF).trans a9),q⟩) fun zz zz e=>e) fun zz zz e=>e) hs hw
abbrev KK(w:AD):Frag:=hd.heap_1 w.params
def MX:AV→Prop
 |.fix v=>handedIn v=true
 |_=>True
theorem VR.handed(r:VR h x v)(q:MX x):handedIn v=true:=by
 cases r<;>first|rfl|exact q
structure Du(σ:AA)(x C dx:AB)(n:Nat)(fs:Str→Option AV):Prop where
 i:σ x=some (.inst C dx)
 d:σ dx=some (.ns n fs)
theorem Du.at(I:Du σ a C dx n m)(g:G σ h):∃o es ep,h.get? dx=some o∧InstAt h a {cls:=.ref C,dict:=some dx,data:=.plain} C (some o)∧o.cls=.type "dict"∧o.data=.dict es ep∧Ij es∧es.size≤n∧
  ∀y,lookIn y o=some (Ik es y)∧(m y=none→Ik es y=none)∧(∀x,m y=some x→∃v,Ik es y=some v∧VR h x v):=by
 refine YA ((g.own _ _ I.d).2) fun o es ep ho hc hd hk hs hf=>?_;refine⟨o,es,ep,ho,⟨(g.own _ _ I.i).2,rfl,rfl,ho⟩,hc,hd,hk,hs,fun y=>⟨?_,hf y⟩⟩;unfold lookIn Ik findBy;rw[hd];dsimp only;rw[←Array.find?_toList];cases q:es.toList.find? (·.key.isStr y)with
 |some e=>rfl
 |none=>
  have:es.toList.any (·.refKey)=false:=by
   rw[List.any_eq_false];intro e he;refine B0 (hk e (Zez.mp he)) fun n t q=>?_;simp[Zf0,q]
  rw[this];rfl
structure DF(w:AD)(C:AB)(name:Str):Prop where
 g:plainGet (KK w) C name=true
 d:hasDictIn (KK w) C=true
 f:QN (KK w) (.ref C) name=some none
inductive qc(w:AD)(attr:Str)(Φ:AV→AA→Prop)(v:AV)(σ₁:AA):Prop
 |mk (x C dx:AB) (n:Nat) (fs:Str→Option AV) (av:AV) (e:v=.ref x) (I:Du σ₁ x C dx n fs) (a:DF w C attr) (f:fs attr=some av) (h:MX av) (q:Φ av σ₁)
theorem TW{a0:Str}(B:Aj)
  (k:EV A env m ρ σ (qc w a0 Φ))
  (he:autoParam (∀env,A0 (.Attribute m a0 a2) env=(do
   let o ←A0 m env
   Cp a2.atName
   let r ←CW [o] (Lv o a0 true)
   Lw m o r
   pure r)) aW):EV A env (.Attribute m a0 a2) ρ σ Φ:=fun s S=>
 Attribute_any_ (AT (k s S) (fun u s₁ ⟨v,a1,r,g,t,x,C,dx,n,fs,av,e1,I,a,e2,hh,q⟩=>by
  subst e1;obtain rfl:=Bi r;refine SB (I.at g) fun o es ep ho IA hc hd hk a3 hl=>?_;refine BN (hl a0) fun l1 l2 l3=>?_;refine AI (l3 av e2) fun vv e3 r=>?_;refine get_value (K:=KK w) (fun a o e=>g.base _ _ (B.K a o e)) IA (Tp a.g).1 (findObj_own a.d a.f rfl (by rw[l1,e3])) (r.handed hh) ?_;exact⟨av,a1,r,g,t.trans (.toks _),q⟩) fun zz zz e=>e) (he _)
theorem dY{o:C6}{es:Array YH}{ep:Nat}(hd:o.data=.dict es ep)(hk:Ij es)(name:Str)(a0:Int)(tk:Tok)(v:Value):
  ∃m a1,(Nl name a0 (.str name tk) v o).data=.dict m a1∧(Nl name a0 (.str name tk) v o).cls=o.cls∧Ij m∧m.size≤es.size+1∧(Ik es name≠none→m.size=es.size)∧
   ∀y,Ik m y=if y=name then some v else Ik es y:=by
 obtain⟨c,d,dt,sl⟩:=o;dsimp only at hd;subst hd;rw[Obj.putName_eq];cases hi:es.findIdx? (·.key.isStr name)with
 |some i=>
  refine⟨es.modify i fun e=>{e with val:=v},ep,by simp only[YO,hi],by simp only[YO,hi],hk.modify _ _,by simp,fun zz=>by simp,fun x=>?_⟩;exact findBy_modify (fun n v=>v.isStr n) Value.isStr_inj es name x v i hi
 |none=>
  refine⟨es.push ⟨a0,.str name tk,v⟩,ep+1,by simp only[YO,hi],by simp only[YO,hi],hk.push _ _ _ _,by simp,fun q=>?_,fun x=>?_⟩
  ·exfalso;apply q;unfold Ik;rw[findBy_of_findIdx?,hi]
  ·exact findBy_push (fun n v=>v.isStr n) es name x _ _ v (fun y=>by
    show(name==y)=decide (y=name);by_cases h:y=name
    ·subst h;exact rfl
    ·have:¬name=y:=fun e=>h e.symm;simp[h,this]) hi
structure DL(w:AD)(C:AB)(name:Str):Prop where
 s:QN (KK w) (.ref C) "__setattr__"=some (some (.builtin "object.__setattr__"))
 p:plainOver (KK w) C=true
 t:takerIn (KK w) C name=some none
 h:hasDictIn (KK w) C=true
def Ux(σ:AA)(s:AN)(A:AX)(x:AB)(C:AB)(dx:AB)(n:Nat)(fs:Str→Option AV)(a0:Str)(av:AV)(v:Value)(Φ:AA→Prop):Prop:=∀(B:Aj)(g:G σ s.heap)(I:Du σ x C dx n fs)(a:DL w C a0)(r:VR s.heap av v)(m:Nat)(hm:(m=n+1∨(m=n∧fs a0≠none)))(hz:n≤100)(q:Φ (upd σ dx (.ns m fun y=>if y=a0 then some av else fs y))),SZ A (setAttr (.ref x) a0 v) σ s Φ
def fN:(((AA×AN)×AX)×((AB×AB)×AB))×(((Nat×(Str→Option AV))×Str)×((AV×Value)×(AA→Prop)))→Prop:=fun t=>Ux t.1.1.1.1 t.1.1.1.2 t.1.1.2 t.1.2.1.1 t.1.2.1.2 t.1.2.2 t.2.1.1.1 t.2.1.1.2 t.2.1.2 t.2.2.1.1 t.2.2.1.2 t.2.2.2
def G8:=zE fN (((((fun _=>none),{}),{}),((0,0),0)),(((0,(fun _=>none)),BV),((.none,BV),(fun _=>True))))
def gW:=G8.1.1.1.1
def Hp:=G8.1.1.1.2
def y0:=G8.1.1.2
def Q6:=G8.1.2.1.1
def rR:=G8.1.2.1.2
def LU:=G8.1.2.2
def cj:=G8.2.1.1.1
def WE:=G8.2.1.1.2
def Ev:=G8.2.1.2
def VO:=G8.2.2.1.1
def MY:=G8.2.2.1.2
def uR:=G8.2.2.2
theorem oR:Ux gW Hp y0 Q6 rR LU cj WE Ev VO MY uR:=fun B g I a r m hm hz q=>by
 refine SB (I.at g) fun o es ep ho IA hc hd hk n hl=>?_;have X:(KK w).In Hp.heap:=fun a o e=>g.base _ _ (B.K a o e);refine set_plain (K:=KK w) X IA a.s (osa_open (s:={Hp with toks:=Hp.toks+1}) X IA a.p a.t fun b=>?_);refine AI (any_some a.h) fun cd a5 a4=>?_;obtain⟨hx,-,-,-⟩:=IA;refine AE (Ad (AE (AE (YQ hx (AE (Tq X a5 _ _ _ _ (fun zz zz e=>e) ?_))))));rw[a4];refine Ad (a:=some LU) (AE (Ad (AE ?_)));unfold nsSet;refine AE (AE (Kf (Ad (AE (i6 (AE (YQ ho ?_)))))));rw[hd];dsimp only;have c:(not (es.any (·.key.isStr Ev))&&es.any (·.refKey))=false:=by
  have:es.any (·.refKey)=false:=by
   rw[Array.any_eq_false'];intro e he;refine B0 (hk e he) fun cj t q=>?_;simp[Zf0,q]
  rw[this,Bool.and_false]
 rw[aRefKeyMayBeTheName_at,c];refine wpAny_updatePart ho ?_;refine B0 (dY hd hk Ev (Nm w.params Ev) (Hp.toks+1) MY) fun a3 a2 a1=>Bv a1 fun q1 q2 q3 a0=>BN a0 fun q4 q5 q6=>?_;have hs:FH LU Hp.heap (Hp.heap.update LU (Nl Ev (Nm w.params Ev) (.str Ev (Hp.toks+1)) MY)):=Eo ..;have ge:(Hp.heap.update LU (Nl Ev (Nm w.params Ev) (.str Ev (Hp.toks+1)) MY)).get? LU=some (Nl Ev (Nm w.params Ev) (.str Ev (Hp.toks+1)) MY o):=
  GY _ ho (YR q1)
 refine AE (wpAny_lookBehind ge (by rw[q1];exact pastItsLine_dict (by rw[CJ];exact ln (AK (AK q4 (CG n)) (CG hz)) rfl)) (Ad ?_));refine⟨upd gW LU (.ns m fun y=>if y=Ev then some VO else WE y),g.set (y:=.ns m fun y=>if y=Ev then some VO else WE y) I.d hs (fun tk=>?_),.set I.d hs rfl rfl,q⟩;refine⟨_,a3,a2,ge,q2.trans hc,q1,q3,?_,fun y=>?_⟩
 ·rcases hm with rfl|⟨rfl,e⟩
  ·exact AK q4 (CG n)
  ·refine BN (hl Ev) fun l1 l2 l3=>?_;refine AY (ER.mp e) fun y hy=>?_;refine AI (l3 y hy) fun v' e' zz=>?_;rw[q5 (by rw[e'];exact Ag _)];exact n
 ·rw[q6];refine BN (hl y) fun zz l2 l3=>?_;by_cases hy:y=Ev
  ·simp only[if_pos hy];exact⟨fun e=>(nomatch e),fun Q6 e=>⟨MY,rfl,Ao e▸r.mono tk⟩⟩
  ·simp only[if_neg hy];refine⟨l2,fun Q6 e=>?_⟩;refine AI (l3 Q6 e) fun v' e' r'=>?_;exact⟨v',e',r'.mono tk⟩
theorem yc{σ s A x C dx n fs m av v Φ}:Ux σ s A x C dx n fs m av v Φ:=@zF _ fN _ @oR ((((σ,s),A),((x,C),dx)),(((n,fs),m),((av,v),Φ)))
inductive Qx(w:AD)(attr:Str)(av:AV)(ρ:AW)(Φ:AW→AA→Prop)(v:AV)(σ₁:AA):Prop
 |mk (x C dx:AB) (n:Nat) (fs:Str→Option AV) (m:Nat) (e:v=.ref x) (I:Du σ₁ x C dx n fs) (a:DL w C attr) (hm:m=n+1∨(m=n∧fs attr≠none)) (hz:n≤100) (q:Φ ρ (upd σ₁ dx (.ns m fun y=>if y=attr then some av else fs y)))
def Ze9{a0 a1 a2 a3 m n a6}{c:Prop}:=@Qx.casesOn a0 a1 a2 a3 m n a6 (fun zz=>c)
theorem QA{a0:Str}(B:Aj)
  (k:EV A env o ρ σ (Qx w a0 av ρ Φ)):
  AQ A env (assign (.Attribute o a0 a6) env) av ρ σ Φ:=fun s v S r=>by
 rw[show assign (.Attribute o a0 a6) env v=(do
  let ov ←CW [v] (A0 o env)
  Cp a6.atName
  CW [v,ov] (setAttr ov a0 v)
  Ls [v,ov] [])from rfl]
 refine AE (CI (AT (k s S) (fun u s₁ a2=>BG a2 fun z a8 a4 g t a7=>Ze9 a7 fun x C dx n fs m e1 I a hm hz q=>?_) fun zz zz e=>e));subst e1;obtain rfl:=Bi a4;refine AE (EQ (AE (CI (AT (yc (Φ:=fun σ'=>Φ ρ σ') B g I a (r.mono (t.evo.tup S.g)) m hm hz q) (fun zz s₂ a2=>TJ a2 fun σ₂ a3 a1 q=>?_) fun zz zz e=>e))));have a5:=S.step g t;exact fun Γ p zz=>by rw[Sem.wp_release];exact⟨ρ,σ₂,a5.step a3 a1,(t.trans a1).toF,q⟩
structure Ak(w:AD)(f:AB)(fd:Ai):Prop where
 at_:∃od osl,(KK w).lookup f=some ⟨.type "function",od,.func fd,osl⟩
 code:codeIn (KK w) fd.code fd.qualname=true
theorem Ak.obj(F:Ak w f fd)(B:Aj)(g:∀b o,hb.get? b=some o→h.get? b=some o):∃o,h.get? f=some o∧o.data=.func fd∧o.cls=.type "function":=by
 refine B0 F.at_ fun n m e=>?_;exact⟨_,g _ _ (B.K _ _ e),rfl,rfl⟩
theorem Gg(hp:l.any (·.1)=false)
  (h:AR M A (spliced l) (fun vs s'=>Q ⟨vs,[]⟩ s') E s):AR M A (evalArgs f true l []) Q E s:=by
 unfold evalArgs;cases l with
 |nil=>
  show AR M A (spliced []>>=_) Q E s;exact AE (AT h (fun vs s' h'=>AE (Ad (CI (AE (Ad (AE (Ad (Ad h')))))))) fun m m x=>x)
 |cons p rest=>
  obtain⟨b,x⟩:=p;cases b with
  |true=>simp at hp
  |false=>
   show AR M A (spliced ((false,x)::rest)>>=_) Q E s;exact AE (AT h (fun vs s' h'=>AE (Ad (CI (AE (Ad (AE (Ad (Ad h')))))))) fun m m x=>x)
def fZ:Expr→Bool
 |.Starred ..=>false
 |_=>true
def CO(args:List Expr):Bool:=args.all fZ
theorem wz(env:Af):∀{args:List Expr},CO args=true→(Bb args env).any (·.1)=false:=by
 intro args
 induction args with
 |nil=>
  intro _;exact rfl
 |cons e r m=>
  intro h;have h':fZ e=true∧CO r=true:=by
   unfold CO at h ⊢;rw[List.all_cons,Fq]at h;exact h
  have n:=m h'.2;cases e<;>first|(show(false||(Bb r env).any (·.1))=false;rw[n];rfl)|exact absurd h'.1 Gx
theorem E7(h:CO args=true):(Dp m (Bb args env)).any (·.1)=false:=by
 have:=wz env h;unfold Dp;rw[List.any_map];exact this
theorem fM{f:AB}{fd:Ai}{first:List Value}{firstA:List AV}{args:List Expr}{n:A3}{Φ:AV→AA→Prop}(B:Aj)(F:Ak w f fd)(S:St env ρ σ s.heap)(r:VRs s.heap firstA first)
  (k:AC A env n args ρ σ fun xs m=>AF A (.ref f) (firstA++xs) m Φ)(hp:CO args=true):Ej A (ES n (.ref f) first (Dp n (Bb args env)) []) σ s Φ:=by
 refine B3 (F.obj B S.g.base) fun o ho hd hc=>?_;refine i7 (o:=o) (fd:=fd) (Gg (E7 hp) ?_);refine AT (k s S) (fun vs s₁ a4=>GV a4 fun xs m a1 g t q=>⟨⟨?_,hd⟩,?_⟩) fun zz zz e=>e
 ·refine B0 F.at_ fun od a6 e=>?_;have q1:=S.g.base _ _ (B.K _ _ e);have q2:=g.base _ _ (B.K _ _ e);rw[ho]at q1;rw[q2,q1]
 ·exact AT (q s₁ _ g ((r.mono (t.evo.tup S.g)).append a1)) (fun v s₂ a5=>BG a5 fun av σ₂ a2 a0 a3 q=>⟨av,σ₂,a2,a0,t.trans a3,q⟩) fun zz zz e=>e
theorem bz{id:String}{first:List Value}{firstA:List AV}{args:List Expr}{n:A3}{Φ:AV→AA→Prop}(S:St env ρ σ s.heap)(r:VRs s.heap firstA first)
  (k:AC A env n args ρ σ fun xs m=>AF A (.builtin id) (firstA++xs) m Φ)(hp:CO args=true):Ej A (ES n (.builtin id) first (Dp n (Bb args env)) []) σ s Φ:=by
 refine i8 (E7 hp) (Gg (E7 hp) ?_);exact AT (k s S) (fun vs s₁ a4=>GV a4 fun xs m a1 g t q=>AT (q s₁ _ g ((r.mono (t.evo.tup S.g)).append a1)) (fun v s₂ a5=>BG a5 fun av σ₂ a2 a0 a3 q=>⟨av,σ₂,a2,a0,t.trans a3,q⟩) fun zz zz e=>e) fun zz zz e=>e
theorem oE(S:St env ρ σ s.heap)
  (k:AC A env a3 args ρ σ fun xs m=>AF A (.type T) xs m Φ)(hp:CO args=true):Ej A (ES a3 (.type T) [] (Dp a3 (Bb args env)) []) σ s Φ:=by
 refine i9 (E7 hp) (Gg (E7 hp) ?_);exact AT (k s S) (fun vs s₁ a4=>GV a4 fun xs m a0 g t q=>AT (q s₁ _ g a0) (fun v s₂ a5=>BG a5 fun av σ₂ a1 n a2 q=>⟨av,σ₂,a1,n,t.trans a2,q⟩) fun zz zz e=>e) fun zz zz e=>e
theorem oO(B:Aj)(hk:Nn (KK w) (.ref C)=true)(S:St env ρ σ s.heap)
  (k:AC A env a3 args ρ σ fun xs m=>AF A (.ref C) xs m Φ)(hp:CO args=true):Ej A (ES a3 (.ref C) [] (Dp a3 (Bb args env)) []) σ s Φ:=by
 refine callWith_of (P:=fun h=>(KK w).In h) (by rw[E7 hp];rfl) (keeps_K hk) (Gg (E7 hp) ?_);exact AT (k s S) (fun vs s₁ a4=>GV a4 fun xs m a0 g t q=>⟨fun a o e=>g.base _ _ (B.K a o e),
  AT (q s₁ _ g a0) (fun v s₂ a5=>BG a5 fun av σ₂ a1 n a2 q=>⟨av,σ₂,a1,n,t.trans a2,q⟩) fun zz zz e=>e⟩) fun zz zz e=>e
inductive PE(w:AD):AV→Value→Prop
 |fn {f:AB} {fd:Ai}:Ak w f fd→PE w (.fix (.ref f)) (.ref f)
 |bi (id:String):PE w (.fix (.builtin id)) (.builtin id)
 |ty (T:String):PE w (.fix (.type T)) (.type T)
 |cl {C:AB}:Nn (KK w) (.ref C)=true→PE w (.fix (.ref C)) (.ref C)
inductive TH(A:AX)(env:Af)(pos:A3)(args:List Expr)(ρ:AW)(Φ:AV→AA→Prop)(fv:AV)(σ₁:AA):Prop
 |mk (f:Value) (c:PE w fv f) (q:AC A env pos args ρ σ₁ fun xs σ₂=>AF A f xs σ₂ Φ)
def Zer{a0 a1 a2 a3 m n a6 a7}{c:Prop}:=@TH.casesOn a0 a1 a2 a3 m n a6 a7 (fun _=>c)
theorem Lg{id:Str}(B:Aj)
  (k:EV A env (.Name id p) ρ σ (TH A env n args ρ Φ))(hp:autoParam (CO args=true) aR):
  EV A env (.Call (.Name id p) args [] n) ρ σ Φ:=fun s S=>
 Ts (AT (k s S) (fun u s₁ a6=>BG a6 fun fv a0 r g t a5=>Zer a5 fun f c q=>by
  have m:=S.step g t;have fin:Ej A (ES n f [] (Dp n (Bb args env)) []) a0 s₁ Φ:=by
   cases c with
   |fn F=>exact fM (firstA:=[]) B F m .nil q hp
   |bi id=>exact bz (firstA:=[]) m .nil q hp
   |ty T=>exact oE m q hp
   |cl hk=>exact oO B hk m q hp
  have hu:u=f:=by cases c<;>(cases r;rfl)
  subst hu;exact AT fin (fun v s₂ a4=>BG a4 fun av σ₂ a2 a1 a3 q=>⟨av,σ₂,a2,a1,t.trans a3,q⟩) fun zz zz e=>e) fun zz zz e=>e)
structure B5(w:AD)(C:AB)(name:Str)(f:AB):Prop where
 g:plainGet (KK w) C name=true
 f:QN (KK w) (.ref C) name=some (some (.ref f))
inductive lV(A:AX)(env:Af)(pos:A3)(name:Str)(args:List Expr)(ρ:AW)(Φ:AV→AA→Prop)(ov:AV)(σ₁:AA):Prop
 |mk (x C dx:AB) (n:Nat) (fs:Str→Option AV) (f:AB) (fd:Ai) (e:ov=.ref x) (I:Du σ₁ x C dx n fs) (hn:fs name=none) (M:B5 w C name f) (F:Ak w f fd) (q:AC A env pos args ρ σ₁ fun xs σ₂=>AF A (.ref f) (.ref x::xs) σ₂ Φ)
theorem Xq(B:Aj)
  (k:EV A env o ρ σ (lV A env m name args ρ Φ))(hp:autoParam (CO args=true) aR)
  (he:autoParam (A0 (.Call (.Attribute o name a0) args [] m) env=(do
   let ov ←A0 o env
   Cp a0.atName
   let(f,first) ←CW [ov] (GZ ov name pl)
   ES m f first (Dp m (Bb args env)) (H3 m (H4 [] env)))) aR):
  EV A env (.Call (.Attribute o name a0) args [] m) ρ σ Φ:=fun s S=>
 YS (kws:=[]) (pl:=pl) (AT (k s S) (fun u s₁ ⟨v,a5,r,g,t,x,C,dx,n,fs,f,fd,e1,I,hn,M,F,q⟩=>by
  subst e1;obtain rfl:=Bi r;refine SB (I.at g) fun o es ep ho IA hc hd hk a6 hl=>?_;refine BN (hl name) fun l1 l2 l3=>?_;have X:(KK w).In s₁.heap:=fun a o e=>g.base _ _ (B.K a o e);refine method_fn (K:=KK w) X IA (Tp M.g).1 (Tp M.g).2 M.f ?_ (by unfold shadowIn;simp[l1,l2 hn]) ?_
  ·refine B0 F.at_ fun od a7 e=>?_;show((KK w).lookup f).map (·.cls)=_;rw[e];rfl
  ·exact AT (fM (firstA:=[.ref x]) B F (S.step g t) (.one (.ref x)) q hp) (fun v s₂ a4=>BG a4 fun av σ₂ a2 a1 a3 q=>⟨av,σ₂,a2,a1,t.trans a3,q⟩) fun zz zz e=>e) fun zz zz e=>e) he
inductive pj(A:AX)(env:Af)(pos:A3)(T id:String)(args:List Expr)(ρ:AW)(Φ:AV→AA→Prop)(ov:AV)(σ₁:AA):Prop
 |mk (h:∀(s:AN) u,G σ₁ s.heap→VR s.heap ov u→s.TypeIs u T∧∀a,u=.ref a→∃o,s.heap.get? a=some o∧o.dict=none) (q:AC A env pos args ρ σ₁ fun xs σ₂=>AF A (.builtin id) (ov::xs) σ₂ Φ)
theorem TZ{T id:String}(pa:PlainAttrs T)(a1:Slot T name id)(a4:No (.builtin id)=pure (.type "method_descriptor"))
  (k:EV A env o ρ σ (pj A env m T id args ρ Φ))(hp:autoParam (CO args=true) aR)
  (he:autoParam (A0 (.Call (.Attribute o name n) args [] m) env=(do
   let ov ←A0 o env
   Cp n.atName
   let(f,first) ←CW [ov] (GZ ov name pl)
   ES m f first (Dp m (Bb args env)) (H3 m (H4 [] env)))) aR):
  EV A env (.Call (.Attribute o name n) args [] m) ρ σ Φ:=fun s S=>
 YS (kws:=[]) (pl:=pl) (AT (k s S) (fun u s₁ ⟨v,a5,r,g,t,hT,q⟩=>by
  refine AL (hT s₁ u g r) fun h1 h2=>?_;refine getMethod_builtin h1 pa a1 a4 h2 ?_;exact AT (bz (firstA:=[v]) (S.step g t) (.one r) q hp) (fun v s₂ ⟨av,σ₂,a2,a0,a3,q⟩=>⟨av,σ₂,a2,a0,t.trans a3,q⟩) fun zz zz e=>e) fun zz zz e=>e) he
def B8:List Str→List AV→AW
 |n::ns,x::xs=>put (B8 ns xs) n x
 |_,_=>fun m=>none
theorem wU:∀{ns:List Str}{vs:List Value}{y:Str},y∉ns→(ns.zip vs).reverse.lookup y=none:=fun{ns vs y} h=>by
 rw[List.lookup_eq_none_iff];intro p hp;rw[List.mem_reverse]at hp;have:=(QO hp).1;rw[bne_iff_ne];rintro rfl;exact h this
theorem Wx(r:VRs h xs vs):ns.Nodup→B8 ns xs y=some m→∃v,(ns.zip vs).reverse.lookup y=some v∧VR h m v:=
 r.ind (P:=fun xs vs=>∀ns:List Str,ns.Nodup→B8 ns xs y=some m→∃v,(ns.zip vs).reverse.lookup y=some v∧VR h m v) (fun ns zz e=>by
  cases ns<;>exact As e) (fun{x v xs vs} r _ ih ns hn e=>by
  cases ns with
  |nil=>exact As e
  |cons n ns=>
   rw[FU]at hn;change(if y=n then some _ else B8 ns _ y)=some m at e;rw[YT,YN,List.lookup_append];by_cases hy:y=n
   ·subst hy;obtain rfl:=Ao (((if_pos rfl).symm.trans e));rw[wU hn.1];exact⟨v,by simp,r⟩
   ·rw[if_neg hy]at e;refine AI (ih ns hn.2 e) fun v' e' r'=>?_;exact⟨v',by rw[e'];rfl,r'⟩) ns
theorem Aq.leave{s₁:AN}(k:∀b o,s.heap.get? b=some o→s₁.heap.get? b=some o)(hf:∀a∈fp env,s.heap.get? a=none)(g1:s₁.gens=s.gens)(o1:s₁.os=s.os)(x:Aq (fx env σ) s₁ (fx env σ') s'):Aq σ s σ' s':=by
 refine⟨fun b o e n=>x.evo b o (k b o e) ?_,fun b q=>?_,x.gens.trans g1,x.os.trans o1⟩
 ·unfold fx;rw[if_neg (fun m=>by rw[hf b m]at e;cases e)];exact n
 ·have:fx env σ' b≠none:=by unfold fx;split;exact Ag _;exact q
  rcases x.dom b this with d|d
  ·unfold fx at d;split at d
   ·rename_i m;exact .inr (hf b m)
   ·exact .inl d
  ·refine .inr ?_;cases e:s.heap.get? b with
   |none=>rfl
   |some o=>exact Bh (((k b o e).symm.trans d))
def backs(Φ:AV→AA→Prop):CL→AW→AA→Prop:=fun f m σ'=>match f with
 |.ret v=>Φ v σ'
 |.next=>Φ .none σ'
 |_=>False
def Zck:Il→Value
 |.ret v=>v
 |_=>.none
theorem WD{Φ:AV→AA→Prop}{f:CL}{fl:Il}{σ':AA}(r:bK h f fl)(q:backs Φ f ρ σ'):∃m,VR h m (Zck fl)∧Φ m σ':=by
 cases f<;>cases fl<;>first|exact r.elim|exact q.elim|exact⟨_,.none,q⟩|exact⟨_,r,q⟩
set_option backward.match.sparseCases true in
def EA(A:AX)(f:Value)(args:List AV)(σ:AA)(Φ:AV→AA→Prop):Prop:=
 ∀s vs,G σ s.heap→VRs s.heap args vs→FI (Ae pg w) A (.call f ⟨vs,[]⟩) (fun r s'=>match r with
  |.ok (.ret v)=>PV σ s Φ v s'
  |.ok _=>False
  |.error _=>False) s
theorem AF.of(x:EA A f args σ Φ):AF A f args σ Φ:=fun s vs g r=>Kg (x s vs g r)
def Ib(fd:Ai)(names:List Str):Bool:=decide names.Nodup&&((fd.scope.names.all fun x=>x.2 != .cell)&&((names.all fun x=>fd.scope.names.lookup x==some .local)&&(not (fd.scope.isCoroutine)&&(not (fd.scope.isGenerator)&&fd.scope.kind== .function))))
theorem Ib.p(h:Ib fd names=true):names.Nodup∧(fd.scope.names.all fun x=>x.2 != .cell)=true∧(names.all fun x=>fd.scope.names.lookup x==some .local)=true∧fd.scope.isCoroutine=false∧fd.scope.isGenerator=false∧fd.scope.kind=.function:=by
 unfold Ib at h;simp only[Fq,decide_eq_true_eq,Bool.not_eq_true',beq_iff_eq]at h;exact h
theorem EA.def{f:AB}{fd:Ai}{body:List DC}{names:List Str}{xs:List AV}{n:Nat}{Φ:AV→AA→Prop}(B:Aj)(F:Ak w f fd)(R:Ah A (n+1))
  (a4:fd.body=.stmts body)
  (k:∀L,EX (A.deeper (BA fd L f)) (BA fd L f) body (B8 names xs) σ (backs Φ))
  (a7:∀vs:List Value,vs.length=names.length→HQ fd ⟨vs,[]⟩=pure (names.zip vs))(b0:xs.length=names.length)(ok:Ib fd names=true):
  EA A (.ref f) xs σ Φ:=fun s vs g r=>by
 obtain⟨c3,a6,a8,c1,a9,hk⟩:=Ib.p ok;refine B3 (F.obj B g.base) fun o ho hd hc=>?_;refine Ei B.T fun p loose mg mb T=>?_;have a5:vs.length=names.length:=by rw[←r.length,b0]
 have a0:∀x∈fd.scope.names,x.2≠.cell:=fun x hx=>by have:=Fo.mp a6 x hx;simpa using this
 refine(codeAny_call_def (fd:=fd) (body:=body) (binds:=names.zip vs) R.d ho hd (T.nolimit.keeps g.base) (Tt (K:=KK w) (fun a o e=>g.base _ _ (B.K a o e)) F.code) a4 (.of_eq (a7 vs a5)) a0
  (fun x hx=>?_) (fun a3 b6 a1=>?_) c1 a9 hk)
 ·have:=Fo.mp a8 x.1 (QO hx).1;simpa using this
 ·have S:St (BA fd s.heap.objs.size f) (B8 names xs) σ a3:=by
   have a2:oc (BA fd s.heap.objs.size f)=[]:=by
    unfold oc;rw[jA.mpr];rfl;intro p hp;simp only[beq_iff_eq];intro e;exact a0 _ (mem_of_lookup e) rfl
   refine⟨g.keeps a1,⟨⟨_,b6,fun x av e zz=>?_⟩,fun c hc=>(by rw[a2]at hc;cases hc),fun x av e q=>?_,(by rw[a2];exact .nil),(by rw[a2];exact fun q=>nomatch q)⟩,g.fresh,fun c hc=>(by rw[a2]at hc;cases hc)⟩
   ·refine AI (Wx r c3 e) fun v e' r'=>?_;exact⟨v,e',r'.mono fun zz zz zz zz q zz zz=>a1 _ _ q⟩
   ·exact absurd rfl (a0 _ (mem_of_lookup q))
  refine AT (k s.heap.objs.size _ S) (fun fl s₂ b7=>HO b7 fun af c2 σ₂ b4 b1 b5 q=>?_) fun zz zz e=>e.elim;refine AI (WD b4 q) fun av b3 b2=>?_;refine⟨av,σ₂,(by cases fl<;>exact b3),b1.g,.leave (env:=BA fd s.heap.objs.size f) (s₁:={s with heap:=a3,toks:=s.toks+(names.zip vs).length}) a1 (fun a m=>?_) rfl rfl b5,b2⟩;rcases A7.mp m with rfl|m
  ·exact GM _
  ·exfalso;refine AI (BD.mp m) fun p hp zz=>?_;have:=(Dn.mp hp).2;simp only[beq_iff_eq]at this;exact a0 _ (mem_of_lookup this) rfl
theorem AF.def{f:AB}{fd:Ai}{body:List DC}{names:List Str}{xs:List AV}{n:Nat}{Φ:AV→AA→Prop}(B:Aj)(F:Ak w f fd)(R:Ah A (n+1))
  (a0:fd.body=.stmts body)
  (k:∀L,EX (A.deeper (BA fd L f)) (BA fd L f) body (B8 names xs) σ (backs Φ))
  (m:∀vs:List Value,vs.length=names.length→HQ fd ⟨vs,[]⟩=pure (names.zip vs))(a1:xs.length=names.length)(ok:Ib fd names=true):
  AF A (.ref f) xs σ Φ:=.of (.def B F R a0 k m a1 ok)
theorem Zaj(kind:Str→Option FV):∀{bs:List (Str×Value)}{m:Str→Option Value}{y:Str},y∉bs.map (·.1)→bindL kind bs m y=m y:=by
 intro bs
 induction bs with
 |nil=>
  intro _ _ _;exact rfl
 |cons p_ r a0=>
  intro m y h;obtain⟨n,v⟩:=p_;rw[CF,A7,not_or]at h;unfold bindL;rw[a0 h.2];split
  ·exact if_neg h.1
  ·rfl
theorem uy(kind:Str→Option FV):∀{bs:List (Str×Value)}{m:Str→Option Value}{y:Str},y∉bs.map (·.1)→bindC kind bs m y=m y:=by
 intro bs
 induction bs with
 |nil=>
  intro _ _ _;exact rfl
 |cons p_ r a0=>
  intro m y h;obtain⟨n,v⟩:=p_;rw[CF,A7,not_or]at h;unfold bindC;rw[a0 h.2];split
  ·rfl
  ·exact if_neg h.1
theorem Y7{ns:List Str}{vs:List Value}(h:y∉ns):y∉(ns.zip vs).map (·.1):=fun q=>by
 refine AI (BD.mp q) fun p hp m=>?_;subst m;exact h (QO hp).1
theorem qP(kind:Str→Option FV)(r:VRs h xs vs):ns.Nodup→B8 ns xs y=some av→kind y=some .local→∃v,bindL kind (ns.zip vs) m y=some v∧VR h av v:=
 r.ind (P:=fun xs vs=>∀(ns:List Str)(m:Str→Option Value),ns.Nodup→B8 ns xs y=some av→kind y=some .local→∃v,bindL kind (ns.zip vs) m y=some v∧VR h av v) (fun ns m zz e zz=>by
  cases ns<;>exact As e) (fun{x v xs vs} r _ ih ns m hn e hk=>by
  cases ns with
  |nil=>exact As e
  |cons n ns=>
   rw[FU]at hn;change(if y=n then some _ else B8 ns _ y)=some av at e;rw[YT];unfold bindL;by_cases hy:y=n
   ·subst hy;obtain rfl:=Ao (((if_pos rfl).symm.trans e));rw[Zaj kind (Y7 hn.1),if_pos hk];exact⟨v,if_pos rfl,r⟩
   ·rw[if_neg hy]at e;exact ih ns _ hn.2 e hk) ns m
theorem pS(kind:Str→Option FV)(r:VRs h xs vs):ns.Nodup→B8 ns xs y=some av→kind y=some .cell→∃v,bindC kind (ns.zip vs) m y=some v∧VR h av v:=
 r.ind (P:=fun xs vs=>∀(ns:List Str)(m:Str→Option Value),ns.Nodup→B8 ns xs y=some av→kind y=some .cell→∃v,bindC kind (ns.zip vs) m y=some v∧VR h av v) (fun ns m zz e zz=>by
  cases ns<;>exact As e) (fun{x v xs vs} r _ ih ns m hn e hk=>by
  cases ns with
  |nil=>exact As e
  |cons n ns=>
   rw[FU]at hn;change(if y=n then some _ else B8 ns _ y)=some av at e;rw[YT];unfold bindC;by_cases hy:y=n
   ·subst hy;obtain rfl:=Ao (((if_pos rfl).symm.trans e));rw[uy kind (Y7 hn.1),if_neg (by rw[hk];decide)];exact⟨v,if_pos rfl,r⟩
   ·rw[if_neg hy]at e;exact ih ns _ hn.2 e hk) ns m
def Xb(scope:C7):Bool:=decide (((HR 0 scope.names []).map (·.1)).Nodup)&&scope.names.all fun x=>x.2 != .cell||((HR 0 scope.names []).lookup x.1).isSome
theorem gB:∀(names:List (Str×FV))(n m:Nat)(a1 a0:List (Str×AB)),a1.map (·.1)=a0.map (·.1)→(HR n names a1).map (·.1)=(HR m names a0).map (·.1):=by
 intro names
 induction names with
 |nil=>
  intro _ _ _ _ h;exact h
 |cons p_ r a2=>
  intro n m a1 a0 h;obtain⟨x,k⟩:=p_;unfold HR;split
  ·exact a2 _ _ _ _ (by simp[h])
  ·exact a2 _ _ _ _ h
theorem vj:∀{l:List (Str×AB)}{x:Str},(l.lookup x).isSome=(l.map (·.1)).contains x:=by
 intro l
 induction l with
 |nil=>
  intro _;exact rfl
 |cons p_ r m=>
  intro x;obtain⟨n,a⟩:=p_;rw[QP,CF,List.contains_cons];cases q:x==n<;>simp[m]
theorem sA{scope:C7}(e:((HR 0 scope.names []).lookup x).isSome=true):((HR n scope.names []).lookup x).isSome=true:=by
 rw[vj]at e ⊢
 rwa [gB scope.names n 0 [] [] rfl]
theorem Vq{l:List (Str×AB)}{x:Str}{a:AB}:(l.map (·.1)).Nodup→(x,a)∈l→l.lookup x=some a:=by
 induction l with
 |nil=>exact fun zz h=>nomatch h
 |cons p r ih=>
  intro n hm;rw[CF,FU]at n;rw[QP];rcases A7.mp hm with e|m
  ·rw[←e,show(x==(x,a).1)=true from beq_self_eq_true _]
  ·rw[show(x==p.1)=false from beq_eq_false_iff_ne.mpr fun q=>n.1 (q▸BD.mpr ⟨(x,a),m,rfl⟩)];exact ih n.2 m
def OW(fd:Ai)(names:List Str):Bool:=decide names.Nodup&&(fd.closure.isEmpty&&(Xb fd.scope&&((names.all fun x=>fd.scope.names.lookup x==some .local||fd.scope.names.lookup x==some .cell)&&(not (fd.scope.isCoroutine)&&(not (fd.scope.isGenerator)&&fd.scope.kind== .function)))))
theorem OW.p(h:OW fd names=true):names.Nodup∧fd.closure=[]∧Xb fd.scope=true∧(names.all fun x=>fd.scope.names.lookup x==some .local||fd.scope.names.lookup x==some .cell)=true∧fd.scope.isCoroutine=false∧fd.scope.isGenerator=false∧fd.scope.kind=.function:=by
 unfold OW at h;simp only[Fq,decide_eq_true_eq,Bool.not_eq_true',beq_iff_eq,List.isEmpty_iff]at h;exact h
theorem GU{f:AB}{fd:Ai}{body:List DC}{names:List Str}{xs:List AV}{n:Nat}{Φ:AV→AA→Prop}(B:Aj)(F:Ak w f fd)(R:Ah A (n+1))
  (a6:fd.body=.stmts body)
  (k:∀L,EX (A.deeper (G0 fd L f)) (G0 fd L f) body (B8 names xs) σ (backs Φ))
  (a7:∀vs:List Value,vs.length=names.length→HQ fd ⟨vs,[]⟩=pure (names.zip vs))(b0:xs.length=names.length)(ok:OW fd names=true):
  AF A (.ref f) xs σ Φ:=fun s vs g r=>by
 obtain⟨b4,a8,a1,a9,c6,b5,hk⟩:=OW.p ok;refine B3 (F.obj B g.base) fun o ho hd hc=>?_;refine Ei B.T fun p loose mg mb T=>?_;have a5:vs.length=names.length:=by rw[←r.length,b0]
 unfold Xb at a1;rw[Fq,decide_eq_true_eq]at a1;refine AL a1 fun c5 b6=>?_;have a4:∀m,((HR m fd.scope.names []).map (·.1)).Nodup:=fun m=>by rw[gB fd.scope.names m 0 [] [] rfl];exact c5
 have a3:∀m x,fd.scope.names.lookup x=some .cell→((HR m fd.scope.names []).lookup x).isSome=true:=fun m x e=>by
  have:=Fo.mp b6 _ (mem_of_lookup e);exact sA (by simpa using this)
 refine Kg (codeAny_call_cells (fd:=fd) (body:=body) (binds:=names.zip vs) R.d ho hd (T.nolimit.keeps g.base) (Tt (K:=KK w) (fun a o e=>g.base _ _ (B.K a o e)) F.code) a6 (a7 vs a5) a8
  (fun x hx=>?_) (fun s₁ x=>?_) c6 b5 hk)
 ·have:=Fo.mp a9 x.1 (QO hx).1;rcases Bool.or_eq_true_iff.mp this with q|q
  ·exact .inl (by simpa using q)
  ·have q:fd.scope.names.lookup x.1=some .cell:=by simpa using q
   exact .inr ⟨q,a3 _ _ q⟩
 ·have a2:=x.toInCall.keep;refine B0 x.toInCall.same fun h₁ tk c4=>?_;subst c4;have a0:∀c∈oc (G0 fd s.heap.objs.size f),s.heap.objs.size<c∧∃y,(G0 fd s.heap.objs.size f).cells.lookup y=some c:=fun c hc=>by
   obtain⟨⟨y,c'⟩,hp,rfl⟩:=BD.mp hc;have hm:=(Dn.mp hp).1;exact⟨x.above _ _ hm,y,Vq (a4 (s.heap.objs.size+1)) hm⟩
  have S:St (G0 fd s.heap.objs.size f) (B8 names xs) σ h₁:=by
   refine⟨g.keeps a2,⟨⟨_,x.toInCall.ns,fun y av e q=>?_⟩,fun c hc=>?_,fun y av e q=>?_,?_,fun q=>?_⟩,g.fresh,fun c hc=>?_⟩
   ·obtain⟨v,e',r'⟩:=qP (G0 fd s.heap.objs.size f).kindOf r b4 e q;exact⟨v,e',r'.mono fun zz zz zz zz q zz zz=>a2 _ _ q⟩
   ·refine GG (a0 c hc) fun zz y hy=>?_;exact⟨_,x.cell y c hy⟩
   ·obtain⟨v,e',r'⟩:=pS (G0 fd s.heap.objs.size f).kindOf r b4 e q;refine AY (Lu.mp (a3 (s.heap.objs.size+1) y q)) fun c hc=>?_;exact⟨c,v,hc,e'▸x.cell y c hc,r'.mono fun zz zz zz zz q zz zz=>a2 _ _ q⟩
   ·unfold oc;have:=x.apart;have p2:((G0 fd s.heap.objs.size f).cells.filter fun p=>(G0 fd s.heap.objs.size f).kindOf p.1==some .cell).Pairwise fun x y=>x.2≠y.2:=this.filter _;exact Np.mpr p2
   ·exact EP _ (a0 _ q).1
   ·have c1:=(a0 c hc).1;constructor
    ·cases q:σ c with
     |none=>rfl
     |some z=>
      refine AI ((g.own _ z q).2.there) fun ob e zz=>?_;exact absurd (DP e) (jB.mpr (QQ c1))
    ·cases q:hb.get? c with
     |none=>rfl
     |some ob=>exact absurd (DP (g.base _ _ q)) (jB.mpr (QQ c1))
  refine AT (k s.heap.objs.size _ S) (fun fl s₂ c3=>HO c3 fun af c8 σ₂ b3 b7 c2 q=>?_) fun zz zz e=>e.elim;refine AI (WD b3 q) fun av b2 b1=>?_;refine⟨av,σ₂,(by cases fl<;>exact b2),b7.g,.leave (env:=G0 fd s.heap.objs.size f) (s₁:={s with heap:=h₁,toks:=tk}) a2 (fun a m=>?_) rfl rfl c2,b1⟩;rcases A7.mp m with rfl|m
  ·exact GM _
  ·exact Im (QQ (a0 a m).1)
set_option genInjectivity true
variable {τ τ':AA}
inductive BI where
 |list (l:AB)
 |tup (xs:List AV)
 |range (a:Int) (n:Nat)
 |enum (l it:AB)
 |vals (d:AB) (xs:List AV)
 |chars (x:Str)
def BI.own(I:AB):BI→List AB
 |.enum _ m=>[I,m]
 |_=>[I]
def BI.nxt:BI→AA→Nat→Option AV→Prop
 |.list l,σ,i,r=>∃xs,σ l=some (.list xs)∧r=xs[i]?
 |.tup xs,_,i,r=>r=xs[i]?
 |.range a n,_,i,r=>r=if i<n then some (.int (a+i))else none
 |.enum l _,σ,i,r=>∃xs,σ l=some (.list xs)∧r=xs[i]?.map fun x=>.tup [.int i,x]
 |.vals _ xs,_,i,r=>r=xs[i]?
 |.chars x,_,i,r=>r=x.cps[i]?.map fun c=>.str ⟨#[c]⟩
def Bs(w:AD)(τ:AA)(h:A5)(I:AB):BI→Nat→Prop
 |.list l,i=>τ I=none∧h.IsListIter I l i
 |.tup xs,i=>τ I=none∧∃t items n,τ t=none∧h.IsTupleIter I t i∧h.get? t=some {cls:=.type "tuple",data:=.seq items n}∧VRs h xs items.toList
 |.range a n,i=>τ I=none∧IsRangeIter h I (a+i) ((n:Int)-i) 1
 |.enum l m,i=>τ I=none∧τ m=none∧I≠m∧(∃a0,IsEnum h I m i a0)∧h.IsListIter m l i
 |.vals d xs,i=>τ I=none∧∃kvs ep,τ d=none∧kvs≠[]∧h.IsValIter I d i kvs.length ep∧h.DictAt (FG pg w) d kvs ep∧VRs h xs (kvs.map (·.2))
 |.chars x,i=>τ I=none∧∃t,h.IsStrIter I "str_ascii_iterator" x t i
theorem Aq.kept(x:Aq τ s τ' s')(n:τ b=none)(e:s.heap.get? b=some o)(c:∀es ep,o.data=.dict es ep→¬Ij es):s'.heap.get? b=some o∧τ' b=none:=by
 refine AI (x.evo b o e n) fun o' m f=>?_;rw[f.of_ne c]at m;exact⟨m,x.dead e n⟩
theorem Oa{o:C6}(d:o.data=.fields xs):∀es ep,o.data=.dict es ep→¬Ij es:=fun m m q=>by exact(nomatch ((d.symm.trans q)))
theorem Bs.step(it:Bs w τ s.heap I a3 i)(x:Aq τ s τ' s')(tk:Bt s.heap s'.heap):Bs w τ' s'.heap I a3 i:=by
 cases a3 with
 |list l=>
  refine LM it fun n o e c d=>?_;refine AL (x.kept n e (Oa d)) fun e' n'=>?_;exact⟨n',o,e',c,d⟩
 |tup xs=>
  refine SN it fun n t items m nt o e c d et rs=>?_;refine AL (x.kept n e (Oa d)) fun e' n'=>?_;refine AL (x.kept nt et (fun zz zz q=>by cases q)) fun b2 b0=>?_;exact⟨n',t,items,m,b0,⟨o,e',c,d⟩,b2,rs.mono tk⟩
 |range a m=>
  refine AL it fun n e=>?_;refine AL (x.kept n e (fun zz zz q=>by cases q)) fun e' n'=>?_;exact⟨n',e'⟩
 |enum l c4=>
  refine Ru it fun n n2 ne b7 e o e2 c d=>?_;refine AL (x.kept n e (fun zz zz q=>by cases q)) fun e' n'=>?_;refine AL (x.kept n2 e2 (Oa d)) fun b5 c2=>?_;exact⟨n',c2,ne,⟨b7,e'⟩,o,b5,c,d⟩
 |vals d xs=>
  refine AL it fun n b3=>B0 b3 fun kvs ep a9=>Bv a9 fun nd ne b6 c1=>B3 b6 fun o e c dt=>AL c1 fun a7 rs=>B0 a7 fun od es b1=>Bv b1 fun ed xd dd a4=>BN a4 fun kk pp r=>?_;refine AL (x.kept n e (Oa dt)) fun e' n'=>?_;have a6:∀a1 a2,od.data=.dict a1 a2→¬Ij a1:=fun a1 a2 q k=>by
   obtain⟨rfl,rfl⟩:=PySem.Data.dict.inj ((dd.symm.trans q));have hl:=pp.length;cases a5:es.toList with
   |nil=>rw[a5]at hl;exact ne (Lp hl.symm)
   |cons a0 c3=>
    have hm:a0∈es:=Zez.mp (by rw[a5];exact .head _);refine B0 (k a0 hm) fun n1 t1 q1=>?_;refine AI (kk a0 hm) fun k2 q2 zz=>?_;refine AY (QI q2) fun t2 q3=>?_;exact(nomatch ((q1.symm.trans q3)))
  refine AL (x.kept nd ed a6) fun b4 a8=>?_;exact⟨n',kvs,ep,a8,ne,⟨o,e',c,dt⟩,⟨od,es,b4,xd,dd,kk,pp,r⟩,rs.mono tk⟩
 |chars y=>
  refine MN it fun n t o e c d=>?_;refine AL (x.kept n e (Oa d)) fun e' n'=>?_;exact⟨n',t,o,e',c,d⟩
structure Kp(own:List AB)(s s':AN):Prop where
 k:∀b o,b∉own→s.heap.get? b=some o→s'.heap.get? b=some o
 gens:s'.gens=s.gens
 os:s'.os=s.os
def Hv:BI→Expr→Prop
 |.list _,_=>True
 |.tup _,_=>True
 |.enum ..,t=>∃n k m,t=.Tuple n k m
 |_,t=>∃x m,t=.Name x m
inductive JY(w:AD)(τ:AA)(I:AB)(src:BI)(i:Nat)(r:Option AV)(s:AN)(v:Value)(s₂:AN):Prop
 |mk (x:AV) (e:r=some x) (rx:VR s₂.heap x v) (it:Bs w τ s₂.heap I src (i+1)) (kp:Kp (src.own I) s s₂)
def NU{a0 a1 a2 a3 m n a6 a7 a8}{c:Prop}:=@JY.casesOn a0 a1 a2 a3 m n a6 a7 a8 (fun zz=>c)
theorem RS{a0:List AB}(k:∀b o,b∉a0→h.get? b=some o→h'.get? b=some o)(f:∀b∈a0,∃o xs,h.get? b=some o∧o.data=.fields xs):Bt h h':=fun b ob items n e c d=>by
 refine k b ob (fun m=>?_) e;refine Cr (f b m) fun o xs e' d'=>?_;obtain rfl:=Ao ((e.symm.trans e'));exact(nomatch ((d.symm.trans d')))
theorem Xf(n:∃o,h.get? I=some o∧o.cls=C∧o.data=.fields xs):∀b∈[I],∃o xs,h.get? b=some o∧o.data=.fields xs:=fun b m=>by
 rw[Ap.mp m];exact B3 n fun o e zz d=>⟨o,_,e,d⟩
theorem Bs.next{I:AB}{a2:BI}{i:Nat}{r:Option AV}{target:Expr}(g:G σ s.heap)(it:Bs w τ s.heap I a2 i)(hh:A.handled=none)(hn:a2.nxt σ i r)(ht:Hv a2 target){E:Value→AN→Prop}:
  AR (Ae pg w) A (Jq (.ref I)) (fun q s₁=>match q with
   |none=>r=none∧Kp (a2.own I) s s₁
   |some v=>AR (Ae pg w) A (YU target (.ref I) v) (fun zz=>JY w τ I a2 i r s v) E s₁) E s:=by
 cases a2 with
 |list l=>
  refine AL it fun nI a0=>?_;refine AI hn fun xs hl b1=>?_;subst b1;refine Cn ((g.own _ _ hl).2) fun items n el rs=>?_;have hL:s.heap.IsList l items:=⟨_,el,rfl,n,rfl⟩;have fI:=Xf a0;cases q:items[i]? with
  |none=>
   refine wpAny_pyNext_list_end hh a0 hL q fun h' e=>⟨?_,fun b o hb eb=>e b o (fun h=>hb (Ap.mpr h)) eb,rfl,rfl⟩;cases q2:xs[i]? with
   |none=>rfl
   |some x=>
    refine AI (rs.get' q2) fun v e zz=>?_;rw[Dx,q]at e;exact As e
  |some v=>
   refine wpAny_pyNext_list_item a0 hL q fun h' a1 hs=>letGo_listiter a1 ?_;refine AI (rs.get (by rw[Dx];exact q)) fun x ex rx=>?_;have k:∀b o,b∉[I]→s.heap.get? b=some o→h'.get? b=some o:=fun b o hb eb=>hs.extBut b o (fun h=>hb (by simp[h])) eb;exact⟨x,ex,rx.mono (RS k fI),⟨nI,a1⟩,k,rfl,rfl⟩
 |tup xs=>
  refine Sg it fun nI t items n b2 a0 et rs=>?_;have hn:r=xs[i]? :=hn;subst hn;have hT:s.heap.IsTuple t items:=⟨_,et,rfl,n,rfl⟩;have fI:=Xf a0;cases q:items[i]? with
  |none=>
   refine wpAny_pyNext_tuple_end hh a0 hT q fun h' e=>⟨?_,fun b o hb eb=>e b o (fun h=>hb (Ap.mpr h)) eb,rfl,rfl⟩;cases q2:xs[i]? with
   |none=>rfl
   |some x=>
    refine AI (rs.get' q2) fun v e zz=>?_;rw[Dx,q]at e;exact As e
  |some v=>
   refine wpAny_pyNext_tuple_item a0 hT q fun h' a1 hs=>letGo_tupleiter a1 ?_;refine AI (rs.get (by rw[Dx];exact q)) fun x ex rx=>?_;have k:∀b o,b∉[I]→s.heap.get? b=some o→h'.get? b=some o:=fun b o hb eb=>hs.extBut b o (fun h=>hb (by simp[h])) eb;have tk:=RS k fI;exact⟨x,ex,rx.mono tk,⟨nI,t,items,n,b2,a1,tk _ _ _ _ et rfl rfl,rs.mono tk⟩,k,rfl,rfl⟩
 |range a m=>
  refine AL it fun nI a0=>?_;have hn:r=if i<m then some (.int (a+i))else none:=hn;refine B0 ht fun y py b3=>?_;subst b3;by_cases q:i<m
  ·rw[if_pos q]at hn;refine wpAny_pyNext_range_item a0 (!Al z8 q) fun h' a1 hs=>Lx (a:=Unit.unit) rfl ?_;refine⟨_,hn,.int _ _,⟨nI,?_⟩,fun b o hb eb=>hs.extBut b o (fun h=>hb (Ap.mpr h)) eb,rfl,rfl⟩;have e1:a+((i+1:Nat):Int)=a+(i:Int)+1:=by exact kW
   have e2:(m:Int)-((i+1:Nat):Int)=(m:Int)-(i:Int)-1:=by exact Al zj
   rw[e1,e2];exact a1
  ·rw[if_neg q]at hn;exact wpAny_pyNext_range_end hh a0 (!Al my q) fun h' e=>⟨hn,fun b o hb eb=>e b o (fun h=>hb (Ap.mpr h)) eb,rfl,rfl⟩
 |enum l a6=>
  refine Bv it fun nI b0 ne a5=>AL a5 fun a3 a0=>AY a3 fun c4 he=>?_;refine AI hn fun xs hl a9=>?_;subst a9;refine Cn ((g.own _ _ hl).2) fun items n el rs=>?_;have hL:s.heap.IsList l items:=⟨_,el,rfl,n,rfl⟩;refine LY ht fun c1 kk c3 b7=>?_;subst b7;have fI:∀b∈[I,a6],∃o xs,s.heap.get? b=some o∧o.data=.fields xs:=by
   refine B3 a0 fun o e c d=>?_;intro b hb;rcases A7.mp hb with rfl|hb
   ·exact⟨_,_,he,rfl⟩
   ·rw[Ap.mp hb];exact⟨o,_,e,d⟩
  cases q:items[i]? with
  |none=>
   refine wpAny_pyNext_enum_end hh he a0 hL q fun h' e=>⟨?_,fun b o hb eb=>e b o (fun h=>hb (by simp[h,BI.own])) eb,rfl,rfl⟩;cases q2:xs[i]? with
   |none=>rfl
   |some x=>
    refine AI (rs.get' q2) fun v e zz=>?_;rw[Dx,q]at e;exact As e
  |some v=>
   refine wpAny_pyNext_enum_item he a0 hL q ne fun h' b5 a1 et c2 hk=>wpAny_letOwnedTupleGo_enum b5 fun b6 a7 hs=>?_;refine AI (rs.get (by rw[Dx];exact q)) fun x ex rx=>?_;have k:∀b o,b∉[I,a6]→s.heap.get? b=some o→b6.get? b=some o:=fun b o hb eb=>hs.extBut b o (fun h=>hb (by simp[h])) (hk b o (fun h=>hb (by simp[h])) (fun h=>hb (by simp[h])) eb);have tk:=RS k fI;have sI:s.heap.objs.size≠I:=fun e=>by rw[←e]at he;exact absurd (DP he) (EP _)
   refine⟨.tup [.int i,x],by rw[ex];rfl,.tup (hs.extBut _ _ sI et) (.cons (.int _ _) (.cons (rx.mono tk) .nil)),⟨nI,b0,ne,⟨v,?_⟩,?_⟩,k,rfl,rfl⟩
   ·have:((i+1:Nat):Int)=(i:Int)+1:=by exact A6 uT
    rw[this];exact a7
   ·refine AI a1 fun o e r=>?_;exact⟨o,hs.extBut _ _ (Ne.symm ne) e,r⟩
 |vals d xs=>
  refine AL it fun nI a8=>B0 a8 fun kvs ep a4=>LG a4 fun nd ne a0 hm rs=>?_;have hn:r=xs[i]? :=hn;subst hn;have fI:=Xf a0;have dI:d≠I:=by
   rintro rfl;refine B3 a0 fun o e c zz=>?_;refine FN hm fun o' zz e' x zz=>?_;obtain rfl:=Ao ((e.symm.trans e'));rw[x.1]at c;simp at c
  cases q:kvs[i]? with
  |none=>
   refine wpAny_pyNext_values_end hh a0 hm q fun h' e=>⟨?_,fun b o hb eb=>e b o (fun h=>hb (Ap.mpr h)) eb,rfl,rfl⟩;cases q2:xs[i]? with
   |none=>rfl
   |some x=>
    refine AI (rs.get' q2) fun v e zz=>?_;rw[CK,q]at e;exact As e
  |some kv=>
   obtain⟨kk,v⟩:=kv;refine wpAny_pyNext_values_item a0 hm q fun h' a1 hs=>letGo_valiter a1 ?_;refine AI (rs.get (i:=i) (v:=v) (by rw[CK,q];rfl)) fun x ex rx=>?_;have k:∀b o,b∉[I]→s.heap.get? b=some o→h'.get? b=some o:=fun b o hb eb=>hs.extBut b o (fun h=>hb (by simp[h])) eb;have tk:=RS k fI;refine⟨x,ex,rx.mono tk,⟨nI,kvs,ep,nd,ne,a1,?_,rs.mono tk⟩,k,rfl,rfl⟩;refine Cr hm fun o es e r=>?_;exact⟨o,es,k _ _ (by simpa using dI) e,r⟩
 |chars y=>
  refine GG it fun nI t a0=>?_;have hn:r=y.cps[i]?.map fun c=>.str ⟨#[c]⟩:=hn;refine B0 ht fun z pz b4=>?_;subst b4;cases q:y.cps[i]? with
  |none=>
   rw[q]at hn;exact wpAny_pyNext_ascii_end hh a0 q fun h' e=>⟨hn,fun b o hb eb=>e b o (fun h=>hb (Ap.mpr h)) eb,rfl,rfl⟩
  |some c=>
   rw[q]at hn;refine wpAny_pyNext_ascii_item a0 q fun h' a1 hs=>Lx (a:=Unit.unit) rfl ?_;exact⟨_,hn,.str _ _,⟨nI,t,a1⟩,fun b o hb eb=>hs.extBut b o (fun h=>hb (Ap.mpr h)) eb,rfl,rfl⟩
set_option genInjectivity false
def EZ(σ:AA)(s:AN)(b:AB):Prop:=σ b=none→s.heap.get? b=none
theorem Aq.fresh(x:Aq σ s σ' s')(n:s'.heap.get? b=none):EZ σ s b:=fun q=>by
 cases e:s.heap.get? b with
 |none=>rfl
 |some o=>refine AI (x.evo b o e q) fun o' m zz=>?_;exact As ((n.symm.trans m))
inductive IT(σ:AA)(s:AN)(Φ:BI→AA→Prop)(it:Value)(s₂:AN):Prop
 |mk (I:AB) (src:BI) (σ₂:AA) (e:it=.ref I) (hit:Bs w σ₂ s₂.heap I src 0) (hf:∀b∈src.own I,EZ σ s b) (g:G σ₂ s₂.heap) (t:Aq σ s σ₂ s₂) (q:Φ src σ₂)
def Jl{a0 a1 n a3 m}{c:Prop}:=@IT.casesOn a0 a1 n a3 m (fun _=>c)
def BQ(A:AX)(env:Af)(e:Expr)(ρ:AW)(σ:AA)(Φ:BI→AA→Prop):Prop:=
 ∀s,St env ρ σ s.heap→AR (Ae pg w) A (A0 e env) (fun v s₁=>AR (Ae pg w) A (Nq v) (IT σ s Φ) (fun m m=>False) s₁) (fun m m=>False) s
theorem TM(it:Bs w τ s.heap I a5 i)(q:Q (.ref I) s):AR (Ae pg w) A (Nq (.ref I)) Q E s:=by
 cases a5 with
 |list l=>exact wpAny_pyIter_listiter it.2 q
 |tup xs=>refine AL it fun zz a2=>Pf a2 fun t items n zz m zz=>?_;exact wpAny_pyIter_tupleiter m q
 |range a n=>exact wpAny_pyIter_rangeiter it.2 q
 |enum l j=>refine Bv it fun zz zz zz a4=>AL a4 fun a1 zz=>AY a1 fun a6 he=>?_;exact wpAny_pyIter_enum he q
 |vals d xs=>refine AL it fun zz a3=>B0 a3 fun kvs ep a0=>Bv a0 fun zz zz m zz=>?_;exact wpAny_pyIter_valiter m q
 |chars x=>refine GG it fun zz t m=>?_;exact wpAny_pyIter_striter_ascii m q
inductive qa(Φ:BI→AA→Prop)(v:AV)(σ₁:AA):Prop
 |mk (l:AB) (xs:List AV) (e1:v=.ref l) (e2:σ₁ l=some (.list xs)) (q:Φ (.list l) σ₁)
inductive t6(Φ:BI→AA→Prop)(v:AV)(σ₁:AA):Prop
 |mk (xs:List AV) (e1:v=.tup xs) (q:Φ (.tup xs) σ₁)
inductive wR(Φ:BI→AA→Prop)(v:AV)(σ₁:AA):Prop
 |mk (x:Str) (e1:v=.str x) (ha:x.cps.all (· <128)=true) (q:Φ (.chars x) σ₁)
inductive Rn(Φ:BI→AA→Prop)(xs:List AV)(σ₂:AA):Prop
 |mk (n:Nat) (e:xs=[.int n]) (h:n<1000000) (q:Φ (.range 0 n) σ₂)
def Ze4{a0 n m}{c:Prop}:=@Rn.casesOn a0 n m (fun zz=>c)
inductive Rx(Φ:BI→AA→Prop)(xs:List AV)(σ₂:AA):Prop
 |mk (a n:Nat) (e:xs=[.int a,.int n]) (h1:a<1000000) (h2:n<1000000) (q:Φ (.range a (n-a)) σ₂)
def Zej{a0 n m}{c:Prop}:=@Rx.casesOn a0 n m (fun zz=>c)
inductive Sd(Φ:BI→AA→Prop)(xs:List AV)(σ₂:AA):Prop
 |mk (l:AB) (ys:List AV) (e:xs=[.ref l]) (h1:σ₂ l=some (.list ys)) (q:∀it,Φ (.enum l it) σ₂)
def Zet{a0 n m}{c:Prop}:=@Sd.casesOn a0 n m (fun zz=>c)
theorem FA{e:Expr}{Φ:BI→AA→Prop}(k:EV A env e ρ σ (qa Φ)):BQ A env e ρ σ Φ:=fun s S=>
 AT (k s S) (fun v s₁ ⟨av,m,r,g,t,l,xs,e1,e2,q⟩=>by
  subst e1;obtain rfl:=Bi r;refine Cn ((g.own _ _ e2).2) fun items n el rs=>?_;exact wpAny_pyIter_list ⟨_,el,rfl,n,rfl⟩ ⟨_,.list l,m,rfl,⟨g.fresh.1,_,B2 _ rfl,rfl,rfl⟩,fun b hb=>Ap.mp hb▸t.fresh (GM _),g.push _,t.trans (.push _),q⟩) fun zz zz e=>e
theorem Pz(k:EV A env e ρ σ (t6 Φ)):BQ A env e ρ σ Φ:=fun s S=>
 AT (k s S) (fun v s₁ ⟨av,a0,r,g,t,xs,e1,q⟩=>by
  subst e1;cases r with
  |@tup a _ items n et rs=>
   exact wpAny_pyIter_tuple ⟨_,et,rfl,n,rfl⟩ ⟨_,.tup xs,a0,rfl,⟨g.fresh.1,a,items,n,g.notTup et rfl rfl,⟨_,B2 _ rfl,rfl,rfl⟩,BC _ et,rs.mono fun m m m m q m m=>BC _ q⟩,
    fun b hb=>Ap.mp hb▸t.fresh (GM _),g.push _,t.trans (.push _),q⟩) fun m m e=>e
theorem Zd3(k:EV A env e ρ σ (wR Φ)):BQ A env e ρ σ Φ:=fun s S=>
 AT (k s S) (fun v s₁ ⟨av,m,r,g,t,x,e1,ha,q⟩=>by
  subst e1;obtain⟨_,rfl⟩:=VR.inv_str r;exact wpAny_pyIter_ascii ha ⟨_,.chars x,m,rfl,⟨g.fresh.1,_,_,B2 _ rfl,rfl,rfl⟩,fun b hb=>Ap.mp hb▸t.fresh (GM _),g.push _,t.trans (.push _),q⟩) fun n n e=>e
theorem PO{id:Str}{Q:Value→AN→Prop}(S:St env ρ σ s.heap)
  (k:EV A env (.Name id p) ρ σ fun fv m=>∃T,fv=.fix (.type T)∧AC A env a3 args ρ m fun xs σ₂=>∀s₂ vs,G σ₂ s₂.heap→VRs s₂.heap xs vs→Aq σ s σ₂ s₂→
   AR (Ae pg w) A (call (.type T) vs) Q (fun n n=>False) s₂)(hp:autoParam (CO args=true) aR):
  AR (Ae pg w) A (A0 (.Call (.Name id p) args [] a3) env) Q (fun n n=>False) s:=
 Ts (AT (k s S) (fun u s₁ ⟨fv,m,r,g,t,T,e1,q⟩=>by
  subst e1;obtain rfl:=TU r;refine i9 (E7 hp) (Gg (E7 hp) ?_);exact AT (q s₁ (S.step g t)) (fun vs s₂ ⟨xs,σ₂,a1,a0,a2,q⟩=>q s₂ vs a0 a1 (t.trans a2)) fun n n e=>e) fun n n e=>e)
theorem dT{a b:Int}(n:a.natAbs<1000000)(m:b.natAbs<1000000):Zf1 a b 1=true∧jC a b 1=((b-a).toNat:Int):=by
 have e:jC a b 1=((b-a).toNat:Int):=by
  unfold jC;refine(if_pos ⋯).trans ?_;by_cases h:a<b
  ·refine(if_pos h).trans ?_;rw[Int.ediv_one,Int.sub_add_cancel,YE (Int.sub_nonneg_of_le (iy h))]
  ·refine(if_neg h).trans ?_;rw[Int.toNat_of_nonpos (Int.sub_nonpos_of_le (jD.mp h))];rfl
 refine⟨?_,e⟩;unfold Zf1;rw[e];unfold Builtin.Range.rangeFitsLong;simp;exact qJ n m
theorem ff(hr:IsRange s.heap r a b 1 t u v)(h1:a.natAbs<1000000)(h2:b.natAbs<1000000)(hn:(b-a).toNat=n)(g:G σ' s.heap)(x:Aq σ s₀ σ' s)(q:Φ (.range a n) σ'):
  AR (Ae pg w) A (Nq (.ref r)) (IT σ s₀ Φ) (fun zz zz=>False) s:=by
 have m:=dT h1 h2;refine wpAny_pyIter_range hr m.1 ⟨_,.range a n,σ',rfl,⟨g.fresh.1,?_⟩,fun b hb=>Ap.mp hb▸x.fresh (GM _),g.push _,x.trans (.push _),q⟩;rw[m.2,hn];have e2:a+((0:Nat):Int)=a:=by exact tJ
 have e3:(n:Int)-((0:Nat):Int)=n:=by exact A6 o82
 rw[e2,e3];exact B2 _ rfl
theorem Le{id:Str}
  (k:EV A env (.Name id p) ρ σ (Is (.fix (.type "range")) fun m=>AC A env b1 [x] ρ m (Rn Φ)))(hp:autoParam (CO [x]=true) aR):
  BQ A env (.Call (.Name id p) [x] [] b1) ρ σ Φ:=fun s S=>by
 refine PO S (k.mono fun fv m b0=>Xy b0 fun e1 a3=>⟨_,e1,fun s₁ a4=>AT (a3 s₁ a4) (fun vs s₂ a8=>GV a8 fun xs σ₂ a6 a1 a7 a9=>Ze4 a9 fun n e2 hn q=>⟨xs,σ₂,a6,a1,a7,fun b2 vs a2 a5 a0=>?_⟩) fun zz zz e=>e⟩) hp;subst e2;cases a5 with
 |cons r r'=>
  cases r';obtain⟨_,rfl⟩:=VR.inv_int r;exact call_range_1 (ff (B2 _ rfl) (!ZA) (!Qq hn) (!o83) (a2.push _) (a0.trans ((Aq.push _).trans (.toks _))) q)
theorem Zdq{id:Str}
  (k:EV A env (.Name id p) ρ σ (Is (.fix (.type "range")) fun m=>AC A env b1 [x,y] ρ m (Rx Φ)))(hp:autoParam (CO [x,y]=true) aR):
  BQ A env (.Call (.Name id p) [x,y] [] b1) ρ σ Φ:=fun s S=>by
 refine PO S (k.mono fun fv m a8=>Xy a8 fun e1 a3=>⟨_,e1,fun s₁ a5=>AT (a3 s₁ a5) (fun vs s₂ b0=>GV b0 fun xs σ₂ a6 a1 a7 a9=>Zej a9 fun a n e2 ha hn q=>⟨xs,σ₂,a6,a1,a7,fun b2 vs a2 a4 a0=>?_⟩) fun zz zz e=>e⟩) hp;subst e2;cases a4 with
 |cons r r'=>
  cases r' with
  |cons r2 r'=>
   cases r';obtain⟨_,rfl⟩:=VR.inv_int r;obtain⟨_,rfl⟩:=VR.inv_int r2;exact call_range_2 (ff (B2 _ rfl) (!Qq ha) (!Qq hn) (!kO) (a2.push _) (a0.trans ((Aq.push _).trans (.toks _))) q)
theorem Zcs{id:Str}
  (k:EV A env (.Name id p) ρ σ (Is (.fix (.type "enumerate")) fun a1=>AC A env b3 [x] ρ a1 (Sd Φ)))(hp:autoParam (CO [x]=true) aR):
  BQ A env (.Call (.Name id p) [x] [] b3) ρ σ Φ:=fun s S=>by
 refine PO S (k.mono fun fv a1 b1=>Xy b1 fun e1 a5=>⟨_,e1,fun s₁ a7=>AT (a5 s₁ a7) (fun vs s₂ b2=>GV b2 fun xs σ₂ a8 a4 a9 a3=>Zet a3 fun l ys e2 hl q=>⟨xs,σ₂,a8,a4,a9,fun a2 vs m a6 a0=>?_⟩) fun zz zz e=>e⟩) hp;subst e2;cases a6 with
 |cons r r'=>
  cases r';obtain rfl:=Bi r;refine Cn ((m.own _ _ hl).2) fun items n el rs=>?_;refine call_enumerate_list ⟨_,el,rfl,n,rfl⟩ fun h' he b0 b4 hk=>?_;refine wpAny_pyIter_enum he ⟨_,.enum l a2.heap.objs.size,σ₂,rfl,⟨?_,m.fresh.1,Nat.succ_ne_self _,⟨_,he⟩,b0⟩,fun b hb=>?_,m.keeps hk,a0.trans (.keeps hk rfl rfl),q _⟩
  ·have:=m.fresh.1;cases q2:σ₂ (a2.heap.objs.size+1)with
   |none=>rfl
   |some z=>refine AI ((m.own _ z q2).2.there) fun ob e zz=>?_;exact absurd (DP e) (jB.mpr (G1 _))
  ·rcases A7.mp hb with rfl|hb
   ·exact a0.fresh (Im (G1 _))
   ·rw[Ap.mp hb];exact a0.fresh (GM _)
def Ce(σ:AA)(d:AB):AA:=fun b=>if b=d then none else σ b
theorem Vf(σ:AA)(d:AB):∀a x,Ce σ d a=some x→σ a=some x:=fun a x e=>by
 unfold Ce at e;split at e
 ·exact As e
 ·exact e
theorem Ct.vals{K:Type}:∀{xs:List (K×AV)}{vs},Ct h xs vs→VRs h (xs.map (·.2)) (vs.map (·.2))
 :=fun q=>by induction q with|nil=>exact .nil|cons a _ m=>exact .cons a m
theorem VD(σ:AA)(d:AB):Ce σ d d=none:=if_pos rfl
inductive zQ(Φ:BI→AA→Prop)(v:AV)(σ₁:AA):Prop
 |mk (d:AB) (es:List (Int×AV)) (e:v=.ref d) (n:d≠1) (ne:es≠[]) (h:σ₁ d=some (.dictI es)) (q:Φ (.vals d (es.map (·.2))) (Ce σ₁ d))
theorem Zde
  (k:EV A env o ρ σ (zQ Φ))
  (he:autoParam (A0 (.Call (.Attribute o "values" a0) [] [] n) env=(do
   let ov ←A0 o env
   Cp a0.atName
   let(f,first) ←CW [ov] (GZ ov "values" pl)
   ES n f first (Dp n (Bb [] env)) (H3 n (H4 [] env)))) aR):
  BQ A env (.Call (.Attribute o "values" a0) [] [] n) ρ σ Φ:=fun s S=>
 YS (kws:=[]) (pl:=pl) (AT (k s S) (fun u s₁ ⟨v,m,r,g,t,d,es,e1,n1,ne,e2,q⟩=>by
  subst e1;obtain rfl:=Bi r;refine V5 ((g.own _ _ e2).2) fun kvs ob a1 ep eo xd hd r5 rv=>?_;have a2:s₁.TypeIs (.ref d) "dict":=⟨_,eo,xd.1⟩;have a3:(d==sysModules)=false:=beq_eq_false_iff_ne.mpr n1;refine getMethod_builtin a2 Zf2 Zf3 PySem.F.type_dict_values (fun a q=>by obtain rfl:=Tu q;exact⟨_,eo,xd.2.1⟩) ?_;refine i8 rfl (Gg rfl (Ad ?_));refine Tv Zf3 a2 PySem.F.entry_dict_values (PySem.F.args_dict_values_1 _) (meets_dict_values (FG pg w) d a3) ⟨⟨kvs,ob,a1,ep,eo,xd,hd,r5⟩,?_⟩;refine wpAny_pyIter_values (knd:=FG pg w) (kvs:=kvs) (ep:=ep) (d:=d) ⟨_,B2 _ rfl,rfl,rfl⟩ ⟨ob,a1,BC _ eo,xd,hd,r5⟩ ?_;have g':G (Ce m d) s₁.heap:=g.weaken (Vf _ _);have fr:=((g'.push {cls:=.type "dict_values",data:=.fields #[.ref d]}).fresh).1;refine⟨_,.vals d (es.map (·.2)),Ce m d,rfl,⟨fr,kvs,ep,VD _ _,(fun z=>ne (by subst z;cases rv;rfl)),⟨_,B2 _ rfl,rfl,rfl⟩,⟨ob,a1,BC _ (BC _ eo),xd,hd,r5⟩,
   rv.vals.mono fun zz zz zz zz e zz zz=>BC _ (BC _ e)⟩,fun b hb=>Ap.mp hb▸ ?_,(g'.push _).push _,(t.trans ((Aq.push _).trans (Aq.push _))).weaken (Vf _ _),q⟩
  exact(t.trans (Aq.push _)).fresh (GM _)) fun zz zz e=>e) he
variable {ρ':AW}
theorem Bs.fields(it:Bs w τ h I a0 i):∀b∈a0.own I,τ b=none∧∃o xs,h.get? b=some o∧o.data=.fields xs:=by
 cases a0 with
 |enum l j=>
  refine Ru it fun n n2 ne a4 e o e2 c d=>?_;intro b hb;rcases A7.mp hb with rfl|hb
  ·exact⟨n,_,_,e,rfl⟩
  ·rw[Ap.mp hb];exact⟨n2,_,_,e2,d⟩
 |list l=>refine LM it fun n o e c d=>?_;intro b hb;rw[Ap.mp hb];exact⟨n,_,_,e,d⟩
 |tup xs=>refine SN it fun n t items m nt o e c d et rs=>?_;intro b hb;rw[Ap.mp hb];exact⟨n,_,_,e,d⟩
 |range a m=>refine AL it fun n e=>?_;intro b hb;rw[Ap.mp hb];exact⟨n,_,_,e,rfl⟩
 |vals d xs=>refine AL it fun n a3=>B0 a3 fun kvs ep a1=>Bv a1 fun nd ne a2 zz=>B3 a2 fun o e c dt=>?_;intro b hb;rw[Ap.mp hb];exact⟨n,_,_,e,dt⟩
 |chars y=>refine MN it fun n t o e c d=>?_;intro b hb;rw[Ap.mp hb];exact⟨n,_,_,e,d⟩
def BI.open_:BI→Prop
 |.vals ..=>False
 |_=>True
theorem St.fpData(S:St env ρ σ h)(m:b∈fp env):σ b=none∧hb.get? b=none∧∃o,h.get? b=some o∧((∃es ep,o.data=.dict es ep)∨∃v,o.data=.cell v):=by
 rcases A7.mp m with rfl|hm
 ·refine J3 S.l.ns fun m o' es ep n hd zz zz=>?_;exact⟨S.nL.1,S.nL.2,o',n,.inl ⟨es,ep,hd⟩⟩
 ·refine Cr (S.l.cell b hm) fun v o' n hd=>?_;exact⟨(S.nC b hm).1,(S.nC b hm).2,o',n,.inr ⟨v,hd⟩⟩
theorem G.none1(g:G σ h)(m:h.get? a=none):σ a=none:=by
 cases q:σ a with
 |none=>rfl
 |some z=>exact AI ((g.own a z q).2.there) fun n e zz=>As (m.symm.trans e)
theorem G.noneb(g:G σ h)(m:h.get? a=none):hb.get? a=none:=by
 cases q:hb.get? a with
 |none=>rfl
 |some o=>exact Bh ((g.base a o q).symm.trans m)
theorem St.nofp(S:St env ρ σ h)(ha:h.get? a=none):a∉fp env:=fun m=>BN (S.fpData m) fun zz zz n=>AI n fun o e zz=>As (ha.symm.trans e)
theorem JI(n:σ b=none)(m:b∉fp env):fx env σ b=none:=by unfold fx;rw[if_neg m];exact n
theorem II(n:fx env σ b=none):σ b=none∧b∉fp env:=by
 unfold fx at n;split at n
 ·exact Bh n
 ·rename_i m;exact⟨n,m⟩
theorem St.ownfx(S:St env ρ σ h){L:List AB}(hf:∀b∈L,σ b=none∧∃o xs,h.get? b=some o∧o.data=.fields xs):∀b∈L,fx env σ b=none:=fun b m=>JI (hf b m).1 fun m2=>by
 refine BN (S.fpData m2) fun zz zz n=>AI n fun o' e' cc=>?_;refine M0 (hf b m) fun zz o xs e d=>?_;obtain rfl:=Ao ((e.symm.trans e'));rcases cc with⟨es,ep,cc⟩|⟨v,cc⟩<;>exact nomatch d.symm.trans cc
theorem Bs.toF(S:St env ρ σ h)(it:Bs w σ h I a1 i)(ho:a1.open_):Bs w (fx env σ) h I a1 i:=by
 have nf:∀{b:AB}{o:C6},h.get? b=some o→(∀es ep,o.data≠.dict es ep)→(∀v,o.data≠.cell v)→b∉fp env:=fun e d1 d2 m=>by
  refine BN (S.fpData m) fun zz zz a2=>AI a2 fun o' e' c=>?_;obtain rfl:=Ao ((e.symm.trans e'));rcases c with⟨es,ep,c⟩|⟨v,c⟩
  ·exact d1 _ _ c
  ·exact d2 _ c
 have a0:∀b∈a1.own I,fx env σ b=none:=fun b hb=>by
  refine M0 (it.fields b hb) fun n o xs e d=>?_;exact JI n (nf e (fun zz zz q=>!(nomatch ((d.symm.trans q)))) (fun zz q=>!(nomatch ((d.symm.trans q)))))
 cases a1 with
 |list l=>exact⟨a0 I (.head _),it.2⟩
 |tup xs=>
  refine Sg it fun n t items m nt r et rs=>?_;exact⟨a0 I (.head _),t,items,m,JI nt (nf et (fun zz zz q=>!nomatch q) (fun zz q=>!nomatch q)),r,et,rs⟩
 |range a m=>exact⟨a0 I (.head _),it.2⟩
 |enum l j=>exact⟨a0 I (.head _),a0 j (.tail _ (.head _)),it.2.2⟩
 |vals d xs=>exact ho.elim
 |chars y=>exact⟨a0 I (.head _),it.2⟩
theorem Kp.stp(k:Kp a0 s s')(x:Aq τ s₀ τ' s)(f:∀b∈a0,EZ τ s₀ b):Aq τ s₀ τ' s':=by
 refine⟨fun b o e n=>?_,x.dom,k.gens.trans x.gens,k.os.trans x.os⟩;refine AI (x.evo b o e n) fun o' e' fr=>?_;refine⟨o',k.k b o' (fun m=>?_) e',fr⟩;have:=f b m n;exact Bh ((e.symm.trans this))
theorem G.kp{a0:List AB}(g:G σ s.heap)(k:Kp a0 s s')(hn:∀b∈a0,σ b=none)(hf:∀b∈a0,hb.get? b=none∧∃o xs,s.heap.get? b=some o∧o.data=.fields xs):G σ s'.heap∧Bt s.heap s'.heap:=by
 have tk:Bt s.heap s'.heap:=fun b ob items n e c d=>by
  refine k.k b ob (fun m=>?_) e;refine M0 (hf b m) fun zz o xs e' d'=>?_;obtain rfl:=Ao ((e.symm.trans e'));exact(nomatch ((d.symm.trans d')))
 refine⟨⟨fun b o e=>k.k b o (fun m=>?_) (g.base b o e),fun a x e=>⟨(g.own a x e).1,?_⟩⟩,tk⟩
 ·exact As ((((hf b m).1).symm.trans e))
 ·refine AI ((g.own a x e).2.there) fun ob q zz=>?_;exact(g.own a x e).2.keeps ((k.k _ _ (fun m=>!As (((hn a m).symm.trans e))) q).trans q.symm) tk
theorem St.kp(S:St env ρ σ s.heap)(k:Kp a0 s s')(hn:∀b∈a0,fx env σ b=none)(hf:∀b∈a0,hb.get? b=none∧∃o xs,s.heap.get? b=some o∧o.data=.fields xs):St env ρ σ s'.heap:=by
 have n:=fun b m=>II (hn b m);refine AL (S.g.kp k (fun b m=>(n b m).1) hf) fun g' tk=>?_;have kf:∀b∈fp env,∀o,s.heap.get? b=some o→s'.heap.get? b=some o:=fun b m o e=>k.k b o (fun q=>(n b q).2 m) e;refine⟨g',⟨?_,fun c hc=>?_,fun x av e q=>?_,S.l.apart,S.l.apart2⟩,S.nL,S.nC⟩
 ·refine Pm S.l.ns fun m o es ep ho r hm=>?_;exact⟨m,⟨o,es,ep,kf _ (.head _) _ ho,r⟩,fun x av e q=>AI (hm x av e q) fun v a b=>⟨v,a,b.mono tk⟩⟩
 ·refine Cr (S.l.cell c hc) fun v o ho r=>?_;exact⟨v,o,kf _ (.tail _ hc) _ ho,r⟩
 ·refine OJ (S.l.cellv x av e q) fun c v e1 o ho r rv=>?_;exact⟨c,v,e1,⟨o,kf _ (.tail _ (J0 e1 q)) _ ho,r⟩,rv.mono tk⟩
def Ww(next:AW→AA→Prop)(Φ:CL→AW→AA→Prop):CL→AW→AA→Prop
 |.next,ρ,σ=>next ρ σ
 |.cont,ρ,σ=>next ρ σ
 |.brk,ρ,σ=>Φ .next ρ σ
 |.ret v,ρ,σ=>Φ (.ret v) ρ σ
theorem PH{n:List AB}(g:G σ s.heap)(f:∀b∈n,EZ σ s b):∀b∈n,hb.get? b=none:=fun b m=>by
 cases q:σ b with
 |some x=>exact(g.own b x q).1
 |none=>
  have:=f b m q;cases e:hb.get? b with
  |none=>rfl
  |some o=>exact Bh (((g.base b o e).symm.trans this))
def z9(A:AX)(env:Af)(target:Expr)(body:List DC)(Inv:AW→AA→Prop)(Φ:CL→AW→AA→Prop):Option AV→AW→AA→Prop
 |none,ρ',σ'=>Φ .next ρ' σ'
 |some x,ρ',σ'=>AQ A env (Fs target env) x ρ' σ' fun m σ₂=>EX A env body m σ₂ (Ww Inv Φ)
inductive TF(A:AX)(env:Af)(target:Expr)(body:List DC)(Inv:Nat→AW→AA→Prop)(Φ:CL→AW→AA→Prop)(src:BI)(N i:Nat)(ρ':AW)(σ':AA):Prop
 |mk (hi:i≤N) (r:Option AV) (hr:src.nxt σ' i r) (q:z9 A env target body (Inv (i+1)) Φ r ρ' σ')
def Zei{a0 a1 a2 a3 n a5 a6 a7 a8 a9 m}{c:Prop}:=@TF.casesOn a0 a1 a2 a3 n a5 a6 a7 a8 a9 m (fun _=>c)
inductive TB(A:AX)(env:Af)(target:Expr)(body:List DC)(ρ:AW)(Φ:CL→AW→AA→Prop)(src:BI)(σ₁:AA):Prop
 |mk (ht:Hv src target) (ho:src.open_) (N:Nat) (Inv:Nat→AW→AA→Prop) (i0:Inv 0 ρ σ₁) (step:∀i ρ' σ',Inv i ρ' σ'→TF A env target body Inv Φ src N i ρ' σ')
def Zeq{a0 a1 a2 a3 m n a6 a7}{c:Prop}:=@TB.casesOn a0 a1 a2 a3 m n a6 a7 (fun _=>c)
inductive Rg(env:Af)(σ:AA)(s:AN)(I:AB)(src:BI)(N:Nat)(Inv:Nat→AW→AA→Prop)(n:Nat)(s':AN):Prop
 |mk (i:Nat) (ρ':AW) (σ':AA) (hn:N<n+i) (inv:Inv i ρ' σ') (S:St env ρ' σ' s'.heap) (t:Aq (fx env σ) s (fx env σ') s') (it:Bs w (fx env σ') s'.heap I src i)
def Zeo{a0 a1 a2 a3 m n a6 a7 a8}{c:Prop}:=@Rg.casesOn a0 a1 a2 a3 m n a6 a7 a8 (fun _=>c)
theorem Gs(hh:A.handled=none)
  (k:BQ A env a8 ρ σ (TB A env target body ρ Φ))
  (hs:autoParam (∀x,G2 a8 env x=pure x) aI):Em A env (.For target a8 body [] e5) ρ σ Φ:=fun s S=>by
 refine wpAny_For (AT (k s S) (fun v s₁ h₁=>AT h₁ (fun it s₂ c4=>Jl c4 fun I c3 a6 e1 d5 c2 g t c1=>Zeq c1 fun ht ho N Inv i0 step=>?_) fun zz zz e=>e) fun zz zz e=>e) hs;subst e1;have b2:St env ρ a6 s₂.heap:=S.step g t;have d1:=PH S.g c2;have c8:∀b∈c3.own I,EZ (fx env σ) s b:=fun b m n=>c2 b m (II n).1;refine codeAny_forLoop_any (Rg env σ s I c3 N Inv) (fun n s' d6=>Zeo d6 fun i ρ' σ' hn d2 S' t' a9=>?_) (N+1) ⟨0,ρ,a6,!A9 _,i0,b2,t.toF,d5.toF b2 ho⟩;refine Zei (step i ρ' σ' d2) fun e2 r hr q=>?_;have hf:=a9.fields;refine AT (Bs.next (target:=target) (E:=fun zz zz=>False) S'.g a9 hh hr ht) (fun o e3 b1=>?_) fun zz zz e=>DR e
 cases o with
 |none=>
  refine AL b1 fun e kp=>?_;subst e;exact YK ⟨.next,ρ',σ',trivial,S'.kp kp (fun b m=>(hf b m).1) (fun b m=>⟨d1 b m,(hf b m).2⟩),kp.stp t' c8,q⟩
 |some v=>
  refine AT b1 (fun zz c9 z=>NU z fun x e rx a7 kp=>?_) fun zz zz e=>DR e;subst e;have b3:=S'.kp kp (fun b m=>(hf b m).1) (fun b m=>⟨d1 b m,(hf b m).2⟩);have c6:=kp.stp t' c8;refine AT (q c9 v b3 rx) (fun _ c5 d3=>Jm d3 fun e0 σ₂ b0 a3 b7=>?_) fun zz zz e=>DR e;refine AT (b7 c5 b0) (fun fl e4 d4=>HO d4 fun af a0 a1 b4 a5 a4 a2=>?_) fun zz zz e=>DR e;have T:=c6.trans (a3.trans a4);have b5:=a7.step a3 (b3.tupF a3);have b6:=b5.step a4 (b0.tupF a4);cases fl<;>cases af<;>first
   |exact b4.elim
   |exact⟨n-1,!o8 hn e2,i+1,a0,a1,!o6 hn,a2,a5,T,b6⟩
   |exact⟨.next,a0,a1,trivial,a5,T,a2⟩
   |exact⟨.ret _,a0,a1,b4,a5,T,a2⟩
inductive xH(Inv:Nat→AW→AA→Prop)(n:Nat)(ρ:AW)(σ:AA):Prop
 |mk (m:Nat) (h:m<n) (q:Inv m ρ σ)
inductive SA(env:Af)(σ:AA)(s:AN)(Inv:Nat→AW→AA→Prop)(n:Nat)(s':AN):Prop
 |mk (ρ':AW) (σ':AA) (inv:Inv n ρ' σ') (S:St env ρ' σ' s'.heap) (t:Aq (fx env σ) s (fx env σ') s')
def Zdy{a0 a1 a2 a3 m n}{c:Prop}:=@SA.casesOn a0 a1 a2 a3 m n (fun _=>c)
theorem Ll(Inv:Nat→AW→AA→Prop)(n:Nat)(h0:Inv n ρ σ)
  (step:∀n ρ' σ',Inv n ρ' σ'→TR A env a8 ρ' σ' fun b σ₂=>if b then EX A env body ρ' σ₂ (Ww (xH Inv n) Φ)else Φ .next ρ' σ₂):
  Em A env (.While a8 body [] b3) ρ σ Φ:=fun s S=>by
 refine wpAny_While (codeAny_whileLoop (SA env σ s Inv) (fun n s' a7=>Zdy a7 fun ρ' σ' a9 S' t'=>?_) n ⟨ρ,σ,h0,S,.refl _ _⟩);refine AT (step n ρ' σ' a9 s' S') (fun b s₂ b1=>FD b1 fun σ₂ g t q=>?_) fun zz zz e=>DR e;have a5:=S'.step g t;have T:=t'.trans (t.toF (env:=env));cases b with
 |false=>exact YK ⟨.next,ρ',σ₂,trivial,a5,T,q⟩
 |true=>
  refine AT (q s₂ a5) (fun fl b2 b0=>HO b0 fun af a1 a0 a6 a4 a2 a3=>?_) fun zz zz e=>DR e;cases fl<;>cases af<;>first
   |exact a6.elim
   |exact(let⟨m,hm,q⟩:=a3;⟨m,hm,a1,a0,q,a4,T.trans a2⟩)
   |exact⟨.next,a1,a0,trivial,a4,T.trans a2,a3⟩
   |exact⟨.ret _,a1,a0,a6,a4,T.trans a2,a3⟩
def DS(env:Af):List (Str×FV)→List (Str×AB)→List (Str×AB)
 |[],m=>m
 |(n,k)::r,m=>if k== .free then(match env.cells.lookup n with|some a=>DS env r ((n,a)::m)|none=>DS env r m)else DS env r m
abbrev Xa(scope:C7)(env:Af):List (Str×AB):=DS env scope.names []
theorem kI:∀(names:List (Str×FV))(m:List (Str×AB)),(∀p∈names,p.2=.free→(env.cells.lookup p.1).isSome=true)→
  forIn names m (fun(x:Str×FV)(cs:List (Str×AB))=>if x.2== .free then(do let a ←cellOf env x.1;pure (QR ((x.1,a)::cs)))else pure (QR cs))=(pure (DS env names m):Sem (List (Str×AB))):=by
 intro names
 induction names with
 |nil=>
  intro m _;exact rfl
 |cons p_ r a0=>
  intro m h;obtain⟨n,k⟩:=p_;rw[List.forIn_cons];unfold DS;by_cases hk:k=.free
  ·subst hk;have h1:=h _ (.head _) rfl;refine AY (Lu.mp h1) fun a ha=>?_;have hc:cellOf env n=pure a:=by unfold cellOf;rw[ha]
   simp -iota only[beq_self_eq_true,if_true,hc,ha];exact a0 _ fun p hp=>h p (.tail _ hp)
  ·have:(k==NameKind.free)=false:=by simpa using hk
   simp -iota only[this];exact a0 _ fun p hp=>h p (.tail _ hp)
theorem WC(h:∀p∈scope.names,p.2=.free→(env.cells.lookup p.1).isSome=true):closureFor scope env=pure (Xa scope env):=by
 unfold closureFor;have:=kI (env:=env) scope.names [] h;show(do let cs ←forIn scope.names [] (fun x cs=>_);pure cs)=_
 exact(congrArg (· >>=pure) this).trans rfl
set_option tactic.hygienic true in
theorem Kv:∀{names:List (Str×FV)}{m:List (Str×AB)}{y:Str}{a:AB},(y,a)∈DS env names m→(y,a)∈m∨((y,NameKind.free)∈names∧env.cells.lookup y=some a):=by
 intro names
 induction names with
 |nil=>
  intro _ _ _ h;exact .inl h
 |cons p_ r a0=>
  intro m y a h;obtain⟨n,k⟩:=p_;unfold DS at h;split at h
  ·rename_i hk;have hk:k=.free:=by simpa using hk
   subst hk;split at h
   ·rename_i b hb;rcases a0 h with h|h
    ·rcases A7.mp h with e|h
     ·refine AL (Nj e) fun a1 a2=>?_;subst a1;subst a2;exact .inr ⟨.head _,hb⟩
     ·exact .inl h
    ·exact .inr ⟨.tail _ h.1,h.2⟩
   ·rcases a0 h with h|h
    ·exact .inl h
    ·exact .inr ⟨.tail _ h.1,h.2⟩
  ·rcases a0 h with h|h
   ·exact .inl h
   ·exact .inr ⟨.tail _ h.1,h.2⟩
theorem Sm:∀{names:List (Str×FV)}{m:List (Str×AB)},(names.map (·.1)).Nodup→(m.map (·.1)).Nodup→(∀x∈names.map (·.1),x∉m.map (·.1))→((DS env names m).map (·.1)).Nodup:=by
 intro names
 induction names with
 |nil=>
  intro _ _ h _;exact h
 |cons p_ r a1=>
  intro m hn ha hd;obtain⟨n,k⟩:=p_;rw[CF,FU]at hn;unfold DS;have a0:∀x∈r.map (·.1),x∉m.map (·.1):=fun x hx=>hd x (Tw _ hx);split
  ·split
   ·refine a1 hn.2 (by rw[CF,FU];exact⟨hd n (.head _),ha⟩) fun x hx=>?_;rw[CF,A7,not_or];exact⟨fun e=>hn.1 (by rw[←show x=n from e];exact hx),a0 x hx⟩
   ·exact a1 hn.2 ha a0
  ·exact a1 hn.2 ha a0
set_option tactic.hygienic true in
theorem eR:∀{names:List (Str×FV)}{a0:List (Str×AB)}{y:Str},((y,NameKind.free)∈names∧(env.cells.lookup y).isSome=true)∨y∈a0.map (·.1)→y∈(DS env names a0).map (·.1):=by
 intro names
 induction names with
 |nil=>
  intro _ _ h;rcases h with h|h
  ·cases h.1
  ·exact h
 |cons p_ r m=>
  intro a0 y h;obtain⟨n,k⟩:=p_;unfold DS;split
  ·rename_i hk;have hk:k=.free:=by simpa using hk
   subst hk;split
   ·rename_i b hb;refine m ?_;rcases h with⟨h,e⟩|h
    ·rcases A7.mp h with q|h
     ·refine AL (Nj q) fun a4 _=>?_;subst a4;exact .inr (.head _)
     ·exact .inl ⟨h,e⟩
    ·exact .inr (.tail _ h)
   ·rename_i hb;refine m ?_;rcases h with⟨h,e⟩|h
    ·rcases A7.mp h with q|h
     ·refine AL (Nj q) fun a3 _=>?_;subst a3;rw[hb]at e;cases e
     ·exact .inl ⟨h,e⟩
    ·exact .inr h
  ·rename_i hk;refine m ?_;rcases h with⟨h,e⟩|h
   ·rcases A7.mp h with q|h
    ·refine AL (Nj q) fun a2 a1=>?_;subst a2;subst a1;simp at hk
    ·exact .inl ⟨h,e⟩
   ·exact .inr h
def Ht(scope:C7)(env:Af)(x:Str):Bool:=
 scope.kind== .function&&env.scope.kind== .function&&decide ((scope.names.map (·.1)).Nodup)&&scope.names.lookup x==some .local&&
 scope.names.all fun p=>match p.2 with
  |.free=>env.kindOf p.1==some .cell&&(env.cells.lookup p.1).isSome
  |.local=>p.1==x||p.1==".0"
  |.cell=>false
  |_=>true
structure NJ(scope:C7)(env:Af)(x:Str):Prop where
 kind:scope.kind=.function
 ekind:env.scope.kind=.function
 nd:(scope.names.map (·.1)).Nodup
 own:scope.names.lookup x=some .local
 free:∀y,(y,NameKind.free)∈scope.names→env.kindOf y=some .cell∧(env.cells.lookup y).isSome=true
 loc:∀y,(y,NameKind.local)∈scope.names→y=x∨y=".0"
 cell:∀p∈scope.names,p.2≠.cell
theorem lJ(h:Ht scope env x=true):NJ scope env x:=by
 unfold Ht at h;simp -iota only[Fq,beq_iff_eq,decide_eq_true_eq,Fo]at h;refine AL h fun a2 h5=>AL a2 fun a1 h4=>AL a1 fun a0 h3=>AL a0 fun h1 h2=>?_;refine⟨h1,h2,h3,h4,fun y m=>?_,fun y m=>?_,fun p m e=>?_⟩
 ·have:=h5 _ m;simpa using this
 ·have:=h5 _ m;simpa using this
 ·have:=h5 _ m;obtain⟨n,k⟩:=p;subst e;simp at this
variable {scope:C7} {x:Str}
theorem Pb{l:List (Str×FV)}{x:Str}{a:FV}:(l.map (·.1)).Nodup→(x,a)∈l→l.lookup x=some a:=by
 induction l with
 |nil=>exact fun zz h=>nomatch h
 |cons p r ih=>
  intro n hm;rw[CF,FU]at n;rw[QP];rcases A7.mp hm with e|m
  ·rw[←e,show(x==(x,a).1)=true from beq_self_eq_true _]
  ·rw[show(x==p.1)=false from beq_eq_false_iff_ne.mpr fun q=>n.1 (q▸BD.mpr ⟨(x,a),m,rfl⟩)];exact ih n.2 m
theorem Uv(c:NJ scope env x)(e:(G3 scope env).names.lookup y=some k):(k=.cell∧(y,NameKind.free)∈scope.names)∨(k=.local∧(y=x∨y=".0"))∨(k≠.cell∧k≠.local):=by
 have m:=mem_of_lookup e;unfold G3 at m;obtain⟨⟨n,k'⟩,hm,q⟩:=BD.mp m;dsimp only at q;split at q
 ·rename_i hc;cases q;simp -iota only[Fq,beq_iff_eq]at hc;exact .inl ⟨rfl,hc.1.1▸hm⟩
 ·cases q;by_cases h1:k=NameKind.local
  ·subst h1;exact .inr (.inl ⟨rfl,c.loc _ hm⟩)
  ·exact .inr (.inr ⟨fun e=>c.cell _ hm e,h1⟩)
abbrev CR(scope:C7)(env:Af)(C:AB):Af:=Ly scope (Xa scope env) C env
theorem RE(c:NJ scope env x)(e:(CR scope env C).kindOf y=some .cell):env.kindOf y=some .cell∧(CR scope env C).cells.lookup y=env.cells.lookup y:=by
 rcases Uv c e with⟨_,m⟩|⟨q,_⟩|⟨q,_⟩
 ·have f:=c.free y m;refine⟨f.1,?_⟩;have h1:y∈(DS env scope.names []).map (·.1):=eR (.inl ⟨m,f.2⟩);obtain⟨⟨y',a⟩,hm,rfl⟩:=BD.mp h1;have n:=Kv hm;rcases n with n|n
  ·cases n
  ·rw[n.2];exact Vq (Sm c.nd (by simp) (by simp)) hm
 ·cases q
 ·exact absurd rfl q
theorem VE(c:NJ scope env x)(h:a∈oc (CR scope env C)):a∈oc env:=by
 obtain⟨⟨y,n⟩,hp,rfl⟩:=BD.mp h;obtain⟨hm,m⟩:=Dn.mp hp;have m:(CR scope env C).kindOf y=some .cell:=by simpa using m
 rcases Kv (show(y,n)∈DS env scope.names []from hm)with q|q
 ·cases q
 ·exact J0 q.2 (RE c m).1
theorem uP(c:NJ scope env x)(hn:(oc env).Nodup):(oc (CR scope env C)).Nodup:=by
 unfold oc;have hk:((DS env scope.names []).map (·.1)).Nodup:=Sm c.nd (by simp) (by simp);have m:((CR scope env C).cells.filter fun p=>(CR scope env C).kindOf p.1==some .cell).Pairwise fun a b=>a.1≠b.1:=(Np.mp hk).filter _;refine Np.mpr (m.imp_of_mem ?_);intro p q hp hq a0 e;refine AL (Dn.mp hp) fun m1 n=>?_;refine AL (Dn.mp hq) fun m2 k2=>?_;have n:(CR scope env C).kindOf p.1=some .cell:=by simpa using n
 have k2:(CR scope env C).kindOf q.1=some .cell:=by simpa using k2
 rcases Kv (show(p.1,p.2)∈DS env scope.names []from m1)with z|z
 ·cases z
 rcases Kv (show(q.1,q.2)∈DS env scope.names []from m2)with y|y
 ·cases y
 exact a0 (Vl hn z.2 (RE c n).1 (e▸y.2) (RE c k2).1)
def EM(ρ:AW):AW:=fun y=>if y=".0" then none else ρ y
theorem St.comp(c:NJ scope env x)(S:St env ρ σ h)(hn:h.Ns C m)(hx:m x=some v)(r:VR h av v)(n1:σ C=none)(n2:hb.get? C=none)(hC:C∉oc env):
  St (CR scope env C) (put (EM ρ) x av) σ h:=by
 refine⟨S.g,⟨⟨m,hn,fun y n e k=>?_⟩,fun a ha=>S.l.cell a (VE c ha),fun y n e k=>?_,uP c S.l.apart,fun q=>hC (VE c q)⟩,⟨n1,n2⟩,fun a ha=>S.nC a (VE c ha)⟩
 ·rcases Uv c k with⟨q,_⟩|⟨_,rfl|rfl⟩|⟨_,q⟩
  ·exact nomatch q
  ·unfold put at e;obtain rfl:=Ao (((if_pos rfl).symm.trans e));exact⟨v,hx,r⟩
  ·unfold put at e;split at e
   ·rename_i q;obtain rfl:=Ao e;exact⟨v,q▸hx,r⟩
   ·unfold EM at e;exact As (((if_pos rfl).symm.trans e))
  ·exact absurd rfl q
 ·refine AL (RE c k) fun k1 k2=>?_;have hy:y≠x:=by
   rintro rfl;rcases Uv c k with⟨_,m⟩|⟨q,_⟩|⟨q,_⟩
   ·have:=Pb c.nd m;exact(nomatch (Ao ((c.own.symm.trans this))))
   ·exact nomatch q
   ·exact absurd rfl q
  have hd:y≠".0":=by
   rintro rfl;have:=S.l.cellv;unfold put at e;rw[if_neg hy]at e;unfold EM at e;exact As (((if_pos rfl).symm.trans e))
  unfold put at e;rw[if_neg hy]at e;unfold EM at e;rw[if_neg hd]at e;rw[k2];exact S.l.cellv y n e k1
end
section
variable {σ σ' σ'' τ τ':AA} {s s' s'':AN} {h h':A5} {A:AX} {env:Af} {ρ ρ':AW}
theorem dk(I:Nat→AN→Prop)
  (b1:∀n s,I n s→AR (Ae pg w) A (Jq it) (fun r s₁=>match r with
   |none=>R (.ok .next) s₁
   |some v=>AR (Ae pg w) A (YU target it v) (fun zz a1=>AR (Ae pg w) A (Fs target env v) (fun zz s₂=>
     AR (Ae pg w) A (forIn a7 true fun c r=>if r=true then do let ok ←isTrue c env (A0 c env);pure (QR ok)else pure (QR r)) (fun ok a0=>
      if ok=true then AR (Ae pg w) A (A0 b3 env) (fun x a3=>AR (Ae pg w) A (call (.builtin "list.append") [a8,x]) (fun zz a4=>∃m,m<n∧I m a4) (fun zz zz=>False) a3) (fun zz zz=>False) a0
      else ∃m,m<n∧I m a0) (fun zz zz=>False) s₂) (fun zz zz=>False) a1) (fun zz zz=>False) s₁) (fun zz zz=>False) s)
  (n:Nat)(h:I n s):FI (Ae pg w) A (.compLoop (.ListComp b3 [⟨target,b0,a7,0⟩] scope b4) 0 it a8 env) R s:=by
 refine jE rfl I (fun n s hI=>?_) n h;show AR _ A ((Tx (.ListComp b3 [⟨target,b0,a7,0⟩] scope b4) 0 it a8 env).onRaise (fun x=>do Nr x env;jF x)) _ _ s
 refine wpAny_noted ?_;rw[compTurn_list];refine AE (EQ (AE (AT (b1 n s hI) (fun r s₁ h₁=>?_) fun zz zz e=>DR e)));cases r with
 |none=>exact Ad h₁
 |some v=>
  refine AE (AT h₁ (fun zz a1 a5=>?_) fun zz zz e=>DR e);refine AE (AT a5 (fun zz s₂ a6=>AE (AT a6 (fun ok a0 a2=>?_) fun zz zz e=>DR e)) fun zz zz e=>DR e);cases ok with
  |false=>exact Ad ⟨rfl,a2⟩
  |true=>exact AE (AE (AT a2 (fun x a3 b2=>AE (AT b2 (fun zz a4 a9=>Ad (Ad ⟨rfl,a9⟩)) fun zz zz e=>DR e)) fun zz zz e=>DR e))
def XZ(A:AX)(env:Af):List Expr→AW→AA→(Bool→AA→Prop)→Prop
 |[],_,σ,Φ=>Φ true σ
 |[c],ρ,σ,Φ=>TR A env c ρ σ Φ
 |_,_,_,_=>False
theorem XZ.run(t:XZ A env m ρ σ Φ)(S:St env ρ σ s.heap):
  AR (Ae pg w) A (forIn m true fun c r=>if r=true then do let ok ←isTrue c env (A0 c env);pure (QR ok)else pure (QR r)) (PB σ s Φ) (fun n n=>False) s:=by
 match m,t with
 |[],t=>exact wpAny_tests_nil ⟨σ,S.g,.refl _ _,t⟩
 |[c],t=>exact wpAny_tests_one (t s S)
theorem G.adopt{D:AB}{x:AO}(g:G σ h)(n:hb.get? D=none)(o:Ee w h D x):G (upd σ D x) h:=
 ⟨g.base,fun a y e=>by
  unfold upd at e;split at e
  ·rename_i q;subst q;obtain rfl:=Ao e;exact⟨n,o⟩
  ·exact g.own a y e⟩
theorem Aq.adopt{D:AB}{y:AO}(t:Aq σ s σ' s')(f:EZ σ s D):Aq σ s (upd σ' D y) s':=by
 refine⟨t.evo,fun b q=>?_,t.gens,t.os⟩;unfold upd at q;split at q
 ·rename_i e;subst e;cases z:σ b with
  |none=>exact .inr (f z)
  |some _=>exact .inl (!Ag _)
 ·exact t.dom b q
def NT(h:A5)(b:AB):Prop:=∃o,h.get? b=some o∧¬(o.cls=.type "tuple"∧∃items n,o.data=.seq items n)
theorem G.kn{a0:List AB}(g:G σ s.heap)(k:Kp a0 s s')(hn:∀b∈a0,σ b=none)(hf:∀b∈a0,hb.get? b=none∧NT s.heap b):G σ s'.heap∧Bt s.heap s'.heap:=by
 have tk:Bt s.heap s'.heap:=fun b ob items n e c d=>by
  refine k.k b ob (fun m=>?_) e;refine Rt (hf b m) fun zz o e' d'=>?_;obtain rfl:=Ao ((e.symm.trans e'));exact d' ⟨c,_,_,d⟩
 refine⟨⟨fun b o e=>k.k b o (fun m=>?_) (g.base b o e),fun a x e=>⟨(g.own a x e).1,?_⟩⟩,tk⟩
 ·exact As ((((hf b m).1).symm.trans e))
 ·refine AI ((g.own a x e).2.there) fun ob q zz=>?_;exact(g.own a x e).2.keeps ((k.k _ _ (fun m=>!As (((hn a m).symm.trans e))) q).trans q.symm) tk
theorem St.kn(S:St env ρ σ s.heap)(k:Kp a0 s s')(hn:∀b∈a0,fx env σ b=none)(hf:∀b∈a0,hb.get? b=none∧NT s.heap b):St env ρ σ s'.heap:=by
 have n:=fun b m=>II (hn b m);refine AL (S.g.kn k (fun b m=>(n b m).1) hf) fun g' tk=>?_;have kf:∀b∈fp env,∀o,s.heap.get? b=some o→s'.heap.get? b=some o:=fun b m o e=>k.k b o (fun q=>(n b q).2 m) e;refine⟨g',⟨?_,fun c hc=>?_,fun x av e q=>?_,S.l.apart,S.l.apart2⟩,S.nL,S.nC⟩
 ·refine Pm S.l.ns fun m o es ep ho r hm=>?_;exact⟨m,⟨o,es,ep,kf _ (.head _) _ ho,r⟩,fun x av e q=>AI (hm x av e q) fun v a b=>⟨v,a,b.mono tk⟩⟩
 ·refine Cr (S.l.cell c hc) fun v o ho r=>?_;exact⟨v,o,kf _ (.tail _ hc) _ ho,r⟩
 ·refine OJ (S.l.cellv x av e q) fun c v e1 o ho r rv=>?_;exact⟨c,v,e1,⟨o,kf _ (.tail _ (J0 e1 q)) _ ho,r⟩,rv.mono tk⟩
def BI.off(m:List AB):BI→Prop
 |.vals d _=>d∉m
 |_=>True
theorem Bs.kn(it:Bs w τ s.heap I a0 i)(k:Kp a3 s s')(tk:Bt s.heap s'.heap)
  (ne:∀b∈a3,∀o,s.heap.get? b=some o→∀xs,o.data≠.fields xs)(a7:a0.off a3):Bs w τ s'.heap I a0 i:=by
 have kf:∀{b o},s.heap.get? b=some o→(∃xs,o.data=.fields xs)→s'.heap.get? b=some o:=fun e a8=>AY a8 fun xs d=>k.k _ _ (fun m=>ne _ m _ e xs d) e;cases a0 with
 |list l=>refine LM it fun n o e c d=>?_;exact⟨n,o,kf e ⟨_,d⟩,c,d⟩
 |tup xs=>refine SN it fun n t items m nt o e c d et rs=>?_;exact⟨n,t,items,m,nt,⟨o,kf e ⟨_,d⟩,c,d⟩,tk _ _ _ _ et rfl rfl,rs.mono tk⟩
 |range a m=>exact⟨it.1,kf it.2 ⟨_,rfl⟩⟩
 |enum l j=>refine Ru it fun n n2 ne a9 e o e2 c d=>?_;exact⟨n,n2,ne,⟨a9,kf e ⟨_,rfl⟩⟩,o,kf e2 ⟨_,d⟩,c,d⟩
 |vals d xs=>
  refine AL it fun n a2=>B0 a2 fun kvs ep a4=>Bv a4 fun nd ne a6 a5=>B3 a6 fun o e c dt=>AL a5 fun a1 rs=>Cr a1 fun od es ed r=>?_;exact⟨n,kvs,ep,nd,ne,⟨o,kf e ⟨_,dt⟩,c,dt⟩,⟨od,es,k.k _ _ a7 ed,r⟩,rs.mono tk⟩
 |chars y=>refine MN it fun n t o e c d=>?_;exact⟨n,t,o,kf e ⟨_,d⟩,c,d⟩
structure CA(w:AD)(I:AB)(src:BI)(D C:AB)(τ:AA)(s:AN)(i:Nat)(ys:List AV):Prop where
 it:Bs w τ s.heap I src i
 nD:τ D=none
 nC:τ C=none
 pl:∃vs,s.heap.PlainList D vs∧VRs s.heap ys vs.toList
 ns:∃m,s.heap.Ns C m
theorem Aq.ns(x:Aq τ s τ' s')(n:τ C=none)(h:∃m,s.heap.Ns C m):τ' C=none∧∃m,s'.heap.Ns C m:=by
 refine RD h fun m o es ep ho hd r=>?_;refine AI (x.evo _ o ho n) fun o' a0 f=>?_;exact⟨x.dead ho n,m,o',es,ep,a0,f.data.trans hd,r⟩
theorem CA.step(c:CA w I m D C τ s i ys)(x:Aq τ s τ' s')(tk:Bt s.heap s'.heap):CA w I m D C τ' s' i ys:=by
 refine Fz c.pl fun vs n e r=>?_;refine AL (x.kept c.nD e (fun zz zz q=>by cases q)) fun e' nD=>?_;refine AL (x.ns c.nC c.ns) fun nC ns=>?_;exact⟨c.it.step x tk,nD,nC,⟨vs,⟨n,e'⟩,r.mono tk⟩,ns⟩
theorem CA.kp(c:CA w I a0 D C τ s i ys)(k:Kp (a0.own I) s s')(tk:Bt s.heap s'.heap)(it:Bs w τ s'.heap I a0 j)(hD:D∉a0.own I)(hC:C∉a0.own I):CA w I a0 D C τ s' j ys:=by
 refine Fz c.pl fun vs n e r=>?_;refine KL c.ns fun m o es ep ho q=>?_;exact⟨it,c.nD,c.nC,⟨vs,⟨n,k.k _ _ hD e⟩,r.mono tk⟩,m,o,es,ep,k.k _ _ hC ho,q⟩
theorem CA.ntC(c:CA w I a0 D C τ s i ys):NT s.heap C∧∀o,s.heap.get? C=some o→∀xs,o.data≠.fields xs:=by
 refine RD c.ns fun m o es ep ho hd q=>?_;exact⟨⟨o,ho,fun n=>S8 n fun zz zz zz d=>!(nomatch ((hd.symm.trans d)))⟩,fun o' e xs d=>by obtain rfl:=Ao ((ho.symm.trans e));exact(nomatch ((hd.symm.trans d)))⟩
theorem CA.ntD(c:CA w I a0 D C τ s i ys):NT s.heap D∧∀o,s.heap.get? D=some o→∀xs,o.data≠.fields xs:=by
 refine Fz c.pl fun vs n e r=>?_;exact⟨⟨_,e,fun m=>AL m fun q zz=>by simp at q⟩,fun o' e' xs d=>by obtain rfl:=Ao ((e.symm.trans e'));exact nomatch d⟩
theorem St.adopt{D:AB}{x:AO}(S:St env ρ σ h)(n:hb.get? D=none)(f:D∉fp env)(o:Ee w h D x):St env ρ (upd σ D x) h:=by
 have ne:∀b∈fp env,b≠D:=fun b hb e=>f (e▸hb);exact⟨S.g.adopt n o,S.l,⟨by rw[Au _ _ (ne _ (.head _))];exact S.nL.1,S.nL.2⟩,fun c m=>⟨by rw[Au _ _ (ne _ (.tail _ m))];exact(S.nC c m).1,(S.nC c m).2⟩⟩
def vr(A:AX)(env:Af)(scope:C7)(x:Str)(a0:Expr)(n:List Expr)(ρ:AW)(Inv:List AV→AA→Prop)(F:AB→AA→Prop)(ys:List AV):Option AV→AA→Prop
 |none,σ'=>∀D,σ' D=none→hb.get? D=none→F D (upd σ' D (.list ys))
 |some v,σ'=>∀C,XZ A (CR scope env C) n (put (EM ρ) x v) σ' fun b σ₂=>if b then EV A (CR scope env C) a0 (put (EM ρ) x v) σ₂ (fun y m=>Inv (ys++[y]) m)else Inv ys σ₂
inductive RW(A:AX)(env:Af)(scope:C7)(x:Str)(elt:Expr)(ifs:List Expr)(ρ:AW)(Inv:Nat→List AV→AA→Prop)(F:AB→AA→Prop)(src:BI)(N i:Nat)(ys:List AV)(σ':AA):Prop
 |mk (hi:i≤N) (r:Option AV) (hr:src.nxt σ' i r) (q:vr A env scope x elt ifs ρ (Inv (i+1)) F ys r σ')
def Zd4{a0 a1 a2 a3 a4 a5 a6 a7 a8 a9 n m b1 b0}{c:Prop}:=@RW.casesOn a0 a1 a2 a3 a4 a5 a6 a7 a8 a9 n m b1 b0 (fun _=>c)
inductive M4(A:AX)(env:Af)(scope:C7)(x:Str)(px:A3)(elt:Expr)(ifs:List Expr)(ρ:AW)(F:AB→AA→Prop)(src:BI)(σ₁:AA):Prop
 |mk (ht:Hv src (.Name x px)) (N:Nat) (Inv:Nat→List AV→AA→Prop) (i0:Inv 0 [] σ₁) (hN:N≤1000000) (step:∀i ys σ',Inv i ys σ'→RW A env scope x elt ifs ρ Inv F src N i ys σ')
def Ze2{a0 a1 a2 a3 n a5 a6 a7 a8 a9 m}{c:Prop}:=@M4.casesOn a0 a1 a2 a3 n a5 a6 a7 a8 a9 m (fun _=>c)
inductive SI(env:Af)(ρ:AW)(σ:AA)(s:AN)(I:AB)(src:BI)(D C:AB)(N:Nat)(Inv:Nat→List AV→AA→Prop)(n:Nat)(s':AN):Prop
 |mk (i:Nat) (ys:List AV) (σ':AA) (hn:N<n+i) (hy:ys.length≤i) (inv:Inv i ys σ') (S:St env ρ σ' s'.heap) (t:Aq σ s σ' s') (ca:CA w I src D C σ' s' i ys)
def Zd5{a0 a1 a2 a3 a4 a5 a6 a7 a8 a9 n m}{c:Prop}:=@SI.casesOn a0 a1 a2 a3 a4 a5 a6 a7 a8 a9 n m (fun _=>c)
theorem Bs.noown(it:Bs w σ h I n i)(ha:h.get? a=none):a∉n.own I:=fun m=>M0 (it.fields a m) fun zz o xs e zz=>As (ha.symm.trans e)
theorem Bs.nooff(it:Bs w σ h I n i)(ha:h.get? a=none):n.off [a]:=by
 cases n<;>try exact trivial
 refine AL it fun zz a2=>B0 a2 fun kvs ep a0=>Bv a0 fun zz zz zz a1=>AL a1 fun a3 zz=>Cr a3 fun od es ed zz=>?_;intro m;rw[Ap.mp m,ha]at ed;exact As ed
theorem St.kn1{K:AB}(S:St env ρ σ s.heap)(k:Kp [K] s s')(n:σ K=none)(f:K∉fp env)(b:hb.get? K=none)(t:NT s.heap K):St env ρ σ s'.heap∧Bt s.heap s'.heap:=
 have n':∀b∈[K],fx env σ b=none:=fun b m=>by rw[Ap.mp m];exact JI n f
 have f':∀b∈[K],hb.get? b=none∧NT s.heap b:=fun c m=>by rw[Ap.mp m];exact⟨b,t⟩
 ⟨S.kn k n' f',(S.g.kn k (fun b m=>(II (n' b m)).1) f').2⟩
theorem Kp.stp1{K:AB}(k:Kp [K] s' s'')(t:Aq σ s σ' s')(f:EZ σ s K):Aq σ s σ' s'':=k.stp t (fun b m=>by rw[Ap.mp m];exact f)
theorem bO{h8 b3:Expr}{x:Str}{px p0:A3}{f2:List Expr}{scope:C7}{k3:A3}{h2:Option (Value→Sem Unit)}{Q:Value→AN→Prop}{FIN:AB→AA→Prop}(hh:A.handled=none)
  (hc:Ht scope env x=true)(S:St env ρ σ s.heap)
  (k:BQ A env b3 ρ σ (M4 A env scope x px h8 f2 ρ FIN))
  (fin:∀D C σ' s',FIN D σ'→σ' D≠none→D∉fp env→St env ρ σ' s'.heap→Aq σ s σ' s'→(∃m,s'.heap.Ns C m)→σ' C=none→C∉fp env→hb.get? C=none→EZ σ s C→
   QS (Ae pg w) A (fun zz zz=>False) h2 Q (.ref D) C (.ok .next) s')
  (hs:autoParam (∀x,G2 b3 env x=pure x) aI):
  AR (Ae pg w) A (YV (.ListComp h8 [⟨.Name x px,b3,f2,0⟩] scope k3) scope env p0 (Tz []) false (A0 b3 env) h2) Q (fun zz zz=>False) s:=by
 have c:=lJ hc;refine jG rfl hs (WC fun p hp e=>(c.free p.1 (by rw[←e];exact hp)).2) c.kind (fun y hy e=>Pb c.nd (by rw[←e];exact hy)) (AT (k s S) (fun v s₁ h₁=>AT h₁ (fun it s₂ k5=>Jl k5 fun I c2 a4 e1 h0 f3 g t i2=>Ze2 i2 fun ht N Inv i0 hN step=>?_) fun zz zz e=>e) fun zz zz e=>e);subst e1;have e9:St env ρ a4 s₂.heap:=S.step g t;have n2:=PH S.g f3;refine Nt (wpAny_newFunctionEnv c.cell (by intro y hy;simp at hy) (fun h₁ b2 a6=>?_) c.kind) (by show([]:List Value).toArray.size≤Nu;rw[CJ];exact Be _);dsimp only at b2 a6 ⊢;generalize g1:s₂.heap.push {cls:=.type "list",dict:=none,data:=.seq ([]:List Value).toArray}=H2 at b2 a6 ⊢;have hC:H2.objs.size=s₂.heap.objs.size+1:=by rw[←g1,Jr]
 have f1:∀b o,s₂.heap.get? b=some o→b≠H2.objs.size∧b≠s₂.heap.objs.size:=fun b o e=>by
  have hb:=DP e;exact⟨by rw[hC];exact Bp (H5 hb),Bp hb⟩
 have d2:∀b o,s₂.heap.get? b=some o→h₁.get? b=some o:=fun b o e=>a6.extBut b o (f1 b o e).1 (BC _ (g1▸BC _ e));have e0:s₂.heap.objs.size≠H2.objs.size:=by rw[hC];exact Bp (Nv _)
 have k9:h₁.PlainList s₂.heap.objs.size #[]:=⟨_,a6.extBut _ _ e0 (BC _ (g1▸B2 _ rfl))⟩;have c1:∀a,s₂.heap.objs.size≤a→s₂.heap.get? a=none:=fun a ha=>Im ha;have c8:∀a,s₂.heap.get? a=none→a4 a=none:=fun a=>g.none1;have a5:∀a,s₂.heap.get? a=none→hb.get? a=none:=fun a=>g.noneb;have b0:∀a,s₂.heap.get? a=none→a∉fp env:=fun a=>e9.nofp;have b1:∀a,s₂.heap.get? a=none→a∉c2.own I:=fun a=>h0.noown;have d1:∀a,s₂.heap.get? a=none→c2.off [a]:=fun a=>h0.nooff;have eD:=c1 s₂.heap.objs.size (A9 _);have eC:=c1 H2.objs.size (by rw[hC];exact G1 _);generalize s₂.heap.objs.size=D at*;generalize H2.objs.size=C at*;have g3:Bt s₂.heap h₁:=fun a o zz zz e zz zz=>d2 a o e;have kk:∀a0:AN,a0={s₂ with heap:=h₁,toks:=s₂.toks+([]:List (Str×Value)).length}→Aq a4 s₂ a4 a0:=fun a0 e=>by subst e;exact .keeps d2 rfl rfl
 have l0:St env ρ a4 h₁:=e9.step (s':={s₂ with heap:=h₁}) (g.keeps d2) (.keeps d2 rfl rfl);have c4:∀a0:AN,a0={s₂ with heap:=h₁,toks:=s₂.toks+([]:List (Str×Value)).length}→CA w I c2 D C a4 a0 0 []:=fun a0 e=>by
  subst e;exact⟨h0.step (s':={s₂ with heap:=h₁}) (.keeps d2 rfl rfl) g3,c8 _ eD,c8 _ eC,⟨#[],k9,.nil⟩,_,b2⟩
 have hx:(CR scope env C).kindOf x=some .local:=jH c.own;have m2:EZ σ s D:=t.fresh eD;have k4:EZ σ s C:=t.fresh eC;have e4:∀a0:AN,a0={s₂ with heap:=h₁,toks:=s₂.toks+([]:List (Str×Value)).length}→
   FI (Ae pg w) A (.compLoop (.ListComp h8 [⟨.Name x px,b3,f2,0⟩] scope k3) 0 (.ref I) (.ref D) (CR scope env C)) (QS (Ae pg w) A (fun zz zz=>False) h2 Q (.ref D) C) a0:=by
  intro a0 d3;refine dk (SI env ρ σ s I c2 D C N Inv) (fun n s' n1=>Zd5 n1 fun i ys σ' hn hy m4 S' t' ca=>?_) (N+1)
   ⟨0,[],a4,!A9 _,!A9 _,i0,(by subst d3;exact l0),t.trans (kk _ d3),c4 _ d3⟩
  refine Zd4 (step i ys σ' m4) fun h5 r hr q=>?_;have hf:=ca.it.fields;refine AT (Bs.next (target:=.Name x px) (E:=fun zz zz=>False) S'.g ca.it hh hr ht) (fun o a7 e8=>?_) fun zz zz e=>DR e
  have n3:=S'.ownfx hf;have KP:∀a7,Kp (c2.own I) s' a7→St env ρ σ' a7.heap∧Bt s'.heap a7.heap:=fun a7 kp=>have H:=fun b m=>⟨n2 b m,(hf b m).2⟩;⟨S'.kp kp n3 H,(S'.g.kp kp (fun b m=>(hf b m).1) H).2⟩;cases o with
  |none=>
   refine AL e8 fun e kp=>?_;subst e;refine AL (KP _ kp) fun m3 h4=>?_;refine Fz ca.pl fun vs n' el rs=>?_;refine KL ca.ns fun m' oC f4 h6 f5 qC=>?_;have oD:Ee w a7.heap D (.list ys):=⟨vs,n',kp.k _ _ (b1 D eD) el,rs.mono h4⟩;refine fin D C (upd σ' D (.list ys)) a7 (q D ca.nD (a5 D eD)) (by rw[Am];exact Ag _) (b0 D eD) (m3.adopt (a5 D eD) (b0 D eD) oD) ((kp.stp t' f3).adopt m2) ⟨m',oC,f4,h6,kp.k _ _ (b1 C eC) f5,qC⟩ (by rw[Au _ _ (Ne.symm e0)];exact ca.nC) (b0 C eC) (a5 C eC) k4
  |some v=>
   refine AT e8 (fun zz a2 z=>NU z fun av e rx d5 kp=>?_) fun zz zz e=>DR e;subst e;refine AL (KP _ kp) fun k6 h7=>?_;have a1:=ca.kp kp h7 d5 (b1 D eD) (b1 C eC);have k2:=kp.stp t' f3;refine AY a1.ns fun n4 g2=>?_;refine QM (YL hx g2 (fun a8 b7 d4=>?_) (by simp[Ly,G3,c.kind]));have kC:Kp [C] a2 {a2 with heap:=a8,toks:=a2.toks+1}:=⟨fun b o hb e=>d4.extBut b o (fun h=>hb (Ap.mpr h)) e,rfl,rfl⟩;refine AL (k6.kn1 kC a1.nC (b0 C eC) (a5 C eC) a1.ntC.1) fun c6 b4=>?_;have e5:=kC.stp1 k2 k4;have c5:CA w I c2 D C σ' {a2 with heap:=a8,toks:=a2.toks+1} (i+1) ys:=by
    refine Fz a1.pl fun vs n' el rs=>?_;exact⟨a1.it.kn kC b4 (fun b m=>by rw[Ap.mp m];exact a1.ntC.2) (d1 C eC),a1.nD,a1.nC,⟨vs,⟨n',kC.k _ _ (by simpa using e0) el⟩,rs.mono b4⟩,_,b7⟩
   have Sc:St (CR scope env C) (put (EM ρ) x av) σ' a8:=c6.comp c b7 (if_pos rfl) (rx.mono b4) c5.nC (a5 C eC) (fun m=>b0 C eC (.tail _ m));refine AT ((q C).run (s:={a2 with heap:=a8,toks:=a2.toks+1}) Sc) (fun ok k1 m8=>FD m8 fun σ₂ c9 a9 e2=>?_) fun zz zz e=>DR e;have h3:=a9.evo.tup c6.g;have c3:=c5.step a9 h3;have e7:=c6.step (s:={a2 with heap:=a8,toks:=a2.toks+1}) c9 a9;have h1:=Sc.step (s:={a2 with heap:=a8,toks:=a2.toks+1}) c9 a9;cases ok with
   |false=>exact⟨n-1,!o8 hn h5,i+1,ys,σ₂,!o6 hn,!Ga hy,e2,e7,e5.trans a9,c3⟩
   |true=>
    refine AT (e2 k1 h1) (fun y e6 n0=>BG n0 fun ay g0 i1 k0 b6 k7=>?_) fun zz zz e=>DR e;have f0:=b6.evo.tup c9;have a3:=c3.step b6 f0;have k8:=e7.step k0 b6;refine Fz a3.pl fun vs n' el rs=>?_;refine YW ⟨n',el⟩ (fun m1 g9 d6=>?_) (by have e1:=rs.length;rw[Gz]at e1;have e3:ys.length≤1000000:=AK hy (AK h5 hN);rw[CJ];rw[show vs.size=ys.length from e1.symm];exact AK e3 ⋯);have kD:Kp [D] e6 {e6 with heap:=m1}:=⟨fun b o hb e=>d6.extBut b o (fun h=>hb (by simp[h])) e,rfl,rfl⟩;refine AL (k8.kn1 kD a3.nD (b0 D eD) (a5 D eD) a3.ntD.1) fun h9 b5=>?_;have l3:=kD.stp1 (e5.trans (a9.trans b6)) m2;refine KL a3.ns fun m0 oC f4 h6 f5 qC=>?_;refine⟨n-1,!o8 hn h5,i+1,ys++[ay],g0,!o6 hn,by simp;exact hy,k7,h9,l3,a3.it.kn kD b5 (fun b m=>by rw[Ap.mp m];exact a3.ntD.2) (d1 D eD),a3.nD,a3.nC,⟨vs.push y,g9,?_⟩,m0,oC,f4,h6,kD.k _ _ (by simpa using Ne.symm e0) f5,qC⟩;rw[QT];exact(rs.mono b5).append (.one (i1.mono b5))
 exact jI (e4 _ rfl) (TM (c4 _ rfl).it (e4 _ rfl))
theorem Rd{m}(hn:h.Ns C m):NT h C:=by
 refine Pf hn fun o es ep ho hd q=>?_;exact⟨o,ho,fun n=>S8 n fun zz zz zz d=>!(nomatch ((hd.symm.trans d)))⟩
theorem TY(hh:A.handled=none)
  (k:BQ A env n ρ σ (M4 A env scope x px a3 a1 ρ (fun D=>Φ (.ref D))))
  (hc:Ht scope env x=true)(hs:autoParam (∀x,G2 n env x=pure x) aI):
  EV A env (.ListComp a3 [⟨.Name x px,n,a1,0⟩] scope a6) ρ σ Φ:=fun s S=>by
 show AR _ _ _ _ _ _;rw[eval_ListComp];refine bO (FIN:=fun D σ'=>Φ (.ref D) σ') hh hc S k (fun D C σ' s' q hD a5 S' t a0 nC fC bC a4=>?_) hs;refine AY a0 fun m hn=>?_;refine⟨m,hn,fun h' a2=>?_⟩;have kC:Kp [C] s' {s' with heap:=h'}:=⟨fun b o hb e=>a2.extBut b o (fun h=>hb (Ap.mpr h)) e,rfl,rfl⟩;refine AL (S'.g.kn kC (fun b m=>by rw[Ap.mp m];exact nC) (fun b m=>by rw[Ap.mp m];exact⟨bC,Rd hn⟩)) fun g tk=>?_;exact⟨.ref D,σ',.ref _,g,kC.stp t (fun b m=>by rw[Ap.mp m];exact a4),q⟩
theorem Xl(hh:A.handled=none)
  (k:BQ A env a1 ρ σ (M4 A env scope x px a5 a4 ρ (fun D σ'=>AQ A env (Fs (.Name y py) env) (.ref D) ρ σ' (fun a0 σ₂=>Φ .next a0 σ₂))))
  (hc:Ht scope env x=true)
  (b2:autoParam (QL (.ListComp a5 [⟨.Name x px,a1,a4,0⟩] scope a8) (some (.Name y py)) a6.line env=pure true) aR)
  (hs:autoParam (∀x,G2 a1 env x=pure x) aI):
  Em A env (.Assign [.Name y py] (.ListComp a5 [⟨.Name x px,a1,a4,0⟩] scope a8) a6) ρ σ Φ:=fun s S=>by
 show AR _ _ (GX _ _) _ _ _;rw[exec_Assign_Name_used _ _ _ _ b2];refine AE (EQ (AE ?_));show AR _ A (do let _ ←YV (.ListComp a5 [⟨.Name x px,a1,a4,0⟩] scope a8) scope env _ (Tz []) false (A0 a1 env) (some (Fs (.Name y py) env))) _ _ s
 refine AE (bO (FIN:=fun D σ'=>AQ A env (Fs (.Name y py) env) (.ref D) ρ σ' (fun a0 σ₂=>Φ .next a0 σ₂)) hh hc S k (fun D C σ' s' q hD b6 S' t b1 nC fC bC b5=>?_) hs)
 refine AT (q s' _ S' (.ref D)) (fun zz s'' b3=>Jm b3 fun a0 σ₂ a7 a2 b0=>?_) fun zz zz e=>e;refine GG (a2.ns (JI nC fC) b1) fun a3 m hn=>?_;refine⟨m,hn,fun h' b4=>?_⟩;have kC:Kp [C] s'' {s'' with heap:=h'}:=⟨fun b o hb e=>b4.extBut b o (fun h=>hb (Ap.mpr h)) e,rfl,rfl⟩;have a9:=a7.kn kC (fun b m=>by rw[Ap.mp m];exact a3) (fun b m=>by rw[Ap.mp m];exact⟨bC,Rd hn⟩);refine Ad (Ad ⟨.next,a0,σ₂,trivial,a9,?_,b0⟩)
 refine kC.stp (t.toF.trans a2) (fun b m n=>?_);rw[Ap.mp m]at n ⊢;exact b5 (II n).1
def BI.has(m:BI)(σ:AA)(xs:List AV):Prop:=∀i,m.nxt σ i xs[i]?
theorem QB(e:σ l=some (.list xs)):(BI.list l).has σ xs:=fun i=>⟨xs,e,rfl⟩
theorem TV:(BI.tup xs).has σ xs:=fun i=>rfl
theorem Zdi:(BI.vals d xs).has σ xs:=fun i=>rfl
theorem Xk:(BI.range a n).has σ ((B6 n).map fun(i:Nat)=>.int (a+i)):=fun i=>by
 show _=_;rw[CK];by_cases h:i<n
 ·rw[if_pos h,jJ h];rfl
 ·rw[if_neg h,Lz (by simpa using h)];rfl
inductive SV(A:AX)(env:Af)(scope:C7)(x:Str)(px:A3)(elt:Expr)(ρ:AW)(Φ:AV→AA→Prop)(src:BI)(σ₁:AA):Prop
 |mk (ht:Hv src (.Name x px)) (xs:List AV) (hx:src.has σ₁ xs) (hl:xs.length≤1000000) (f:AV→AV) (kf:∀v∈xs,∀C,EV A (CR scope env C) elt (put (EM ρ) x v) σ₁ fun y σ₃=>y=f v∧σ₃=σ₁) (q:∀D,σ₁ D=none→hb.get? D=none→Φ (.ref D) (upd σ₁ D (.list (xs.map f))))
def Ze8{a0 a1 a2 a3 m n a6 a7 a8 a9}{c:Prop}:=@SV.casesOn a0 a1 a2 a3 m n a6 a7 a8 a9 (fun _=>c)
inductive Rr(A:AX)(env:Af)(scope:C7)(x:Str)(px:A3)(c elt:Expr)(ρ:AW)(Φ:AV→AA→Prop)(src:BI)(σ₁:AA):Prop
 |mk (ht:Hv src (.Name x px)) (xs:List AV) (hx:src.has σ₁ xs) (hl:xs.length≤1000000) (p:AV→Bool) (f:AV→AV) (kp:∀v∈xs,∀C,TR A (CR scope env C) c (put (EM ρ) x v) σ₁ fun b σ₃=>b=p v∧σ₃=σ₁)
   (kf:∀v∈xs,p v=true→∀C,EV A (CR scope env C) elt (put (EM ρ) x v) σ₁ fun y σ₃=>y=f v∧σ₃=σ₁) (q:∀D,σ₁ D=none→hb.get? D=none→Φ (.ref D) (upd σ₁ D (.list ((xs.filter p).map f))))
def Zcw{a0 a1 a2 a3 n a5 a6 a7 a8 a9 m}{c:Prop}:=@Rr.casesOn a0 a1 a2 a3 n a5 a6 a7 a8 a9 m (fun _=>c)
theorem QE(hh:A.handled=none)
  (k:BQ A env n ρ σ (SV A env scope x px a8 ρ Φ))
  (hc:Ht scope env x=true)(hs:autoParam (∀x,G2 n env x=pure x) aI):
  EV A env (.ListComp a8 [⟨.Name x px,n,[],0⟩] scope a9) ρ σ Φ:=
 TY hh (fun s S=>AT (k s S) (fun v s₁ h₁=>AT h₁ (fun it s₂ a7=>Jl a7 fun I a2 m e1 a1 a4 g t a6=>Ze8 a6 fun ht xs hx hl f kf q=>⟨I,a2,m,e1,a1,a4,g,t,ht,xs.length,fun i ys σ'=>σ'=m∧ys=(xs.take i).map f∧i≤xs.length,
  ⟨rfl,rfl,Be _⟩,hl,fun i ys σ' a3=>BN a3 fun e1 e2 e3=>⟨e3,xs[i]?,e1▸hx i,by
   subst e1 e2;cases z:xs[i]? with
   |none=>
    have:xs.length≤i:=Gb.mp z;rw[Io this];exact q
   |some v=>
    refine AY (BY.mp z) fun hi hv=>?_;intro C;refine(kf v (hv▸T5 hi) C).mono fun y a0 a5=>AL a5 fun e1 e2=>⟨e2,?_,hi⟩;rw[G4,z,e1];simp⟩⟩) fun zz zz e=>e) fun zz zz e=>e) hc hs
theorem Pw(hh:A.handled=none)
  (k:BQ A env n ρ σ (Rr A env scope x px c b4 ρ Φ))
  (hc:Ht scope env x=true)(hs:autoParam (∀x,G2 n env x=pure x) aI):
  EV A env (.ListComp b4 [⟨.Name x px,n,[c],0⟩] scope b6) ρ σ Φ:=
 TY hh (fun s S=>AT (k s S) (fun v s₁ h₁=>AT h₁ (fun it s₂ a1=>Jl a1 fun I b2 m e1 b0 b3 g t a2=>Zcw a2 fun ht xs hx hl p f kp kf q=>⟨I,b2,m,e1,b0,b3,g,t,ht,xs.length,fun i ys σ'=>σ'=m∧ys=((xs.take i).filter p).map f∧i≤xs.length,
  ⟨rfl,rfl,Be _⟩,hl,fun i ys σ' a5=>BN a5 fun e1 e2 e3=>⟨e3,xs[i]?,e1▸hx i,by
   subst e1 e2;cases z:xs[i]? with
   |none=>
    have:xs.length≤i:=Gb.mp z;rw[Io this];exact q
   |some v=>
    refine AY (BY.mp z) fun hi hv=>?_;intro C;have hm:v∈xs:=hv▸T5 hi;intro a0 a8;refine AT (kp v hm C a0 a8) (fun b b5 a3=>FD a3 fun σ₂ a6 a7 a4=>AL a4 fun e1 e2=>⟨σ₂,a6,a7,?_⟩) fun zz zz e=>e;subst e1 e2;have tk:(xs.take (i+1)).filter p=(xs.take i).filter p++(if p v then[v]else[]):=by
     rw[G4,z,jK];cases hp:p v<;>simp[hp]
    cases hp:p v with
    |false=>rw[hp]at tk;exact⟨rfl,by rw[tk];simp,hi⟩
    |true=>
     rw[hp]at tk;refine(kf v hm hp C).mono fun y a9 b1=>AL b1 fun e1 e2=>⟨e2,?_,hi⟩;rw[tk,e1];simp⟩⟩) fun zz zz e=>e) fun zz zz e=>e) hc hs
theorem M5(g:G σ s.heap)(r:VR s.heap m v)(q:Φ m σ)(k:Nat):
  (PV σ s Φ) v {s with toks:=k}:=⟨m,σ,r,g,.toks _,q⟩
theorem Jj(q:Φ (.int (a+b)) σ):AM A (Ke .Add) (.int a) (.int b) σ Φ:=fun s u v g r1 r2=>by
 refine AY (VR.inv_int r1) fun zz n=>?_;subst n;refine AY (VR.inv_int r2) fun zz m=>?_;subst m;exact wpAny_add_int (M5 g (.int _ _) q _)
theorem NN(q:Φ (.int (a-b)) σ):AM A (Ke .Sub) (.int a) (.int b) σ Φ:=fun s u v g r1 r2=>by
 refine AY (VR.inv_int r1) fun zz m=>?_;subst m;refine AY (VR.inv_int r2) fun zz n=>?_;subst n;exact PyProof.Rows.sub_int (M5 g (.int _ _) q _)
theorem Zes(hm:IntMulOk a b)(q:Φ (.int (a*b)) σ):AM A (Ke .Mult) (.int a) (.int b) σ Φ:=fun s u v g r1 r2=>by
 refine AY (VR.inv_int r1) fun zz m=>?_;subst m;refine AY (VR.inv_int r2) fun zz n=>?_;subst n;exact PyProof.Rows.mul_int (M5 g (.int _ _) q _) hm
theorem Pu(a0:b≠0)(q:Φ (.int (a.fmod b)) σ):AM A (Ke .Mod) (.int a) (.int b) σ Φ:=fun s u v g r1 r2=>by
 refine AY (VR.inv_int r1) fun zz n=>?_;subst n;refine AY (VR.inv_int r2) fun zz m=>?_;subst m;exact PyProof.Rows.mod_int' a0 (M5 g (.int _ _) q _)
theorem Ze0(a0:b≠0)(ha:a.natAbs<100000)(a1:b.natAbs<100000)(q:Φ (.int (a.fdiv b)) σ):AM A (Ke .FloorDiv) (.int a) (.int b) σ Φ:=fun s u v g r1 r2=>by
 refine AY (VR.inv_int r1) fun zz m=>?_;subst m;refine AY (VR.inv_int r2) fun zz n=>?_;subst n;exact PyProof.Rows.floordiv_int a0 (M5 g (.int _ _) q _) (Or.inl (PyProof.noPylong_small (!ln a1 rfl)))
theorem HP(q:Φ (.bool (decide (a=b))) σ):AM A (EC .Eq) (.int a) (.int b) σ Φ:=fun s u v g r1 r2=>by
 refine AY (VR.inv_int r1) fun zz m=>?_;subst m;refine AY (VR.inv_int r2) fun zz n=>?_;subst n;exact PyProof.Rows.eq_int ⟨.bool _,σ,by rw[show(a==b)=decide (a=b)from rfl];exact .bool _,g,.refl _ _,q⟩
theorem NO(q:Φ (.bool (not (decide (a=b)))) σ):AM A (EC .NotEq) (.int a) (.int b) σ Φ:=fun s u v g r1 r2=>by
 refine AY (VR.inv_int r1) fun zz m=>?_;subst m;refine AY (VR.inv_int r2) fun zz n=>?_;subst n;exact PyProof.Rows.ne_int ⟨.bool _,σ,by rw[show(a != b)= not (decide (a=b))from rfl];exact .bool _,g,.refl _ _,q⟩
theorem NL(q:Φ (.bool (decide (a<b))) σ):AM A (EC .Lt) (.int a) (.int b) σ Φ:=fun s u v g r1 r2=>by
 refine AY (VR.inv_int r1) fun zz m=>?_;subst m;refine AY (VR.inv_int r2) fun zz n=>?_;subst n;exact PyProof.Rows.lt_int ⟨.bool _,σ,.bool _,g,.refl _ _,q⟩
theorem KW(q:Φ (.bool (decide (b<a))) σ):AM A (EC .Gt) (.int a) (.int b) σ Φ:=fun s u v g r1 r2=>by
 refine AY (VR.inv_int r1) fun zz m=>?_;subst m;refine AY (VR.inv_int r2) fun zz n=>?_;subst n;exact PyProof.Rows.gt_int ⟨.bool _,σ,.bool _,g,.refl _ _,q⟩
theorem X8(q:Φ (.bool (decide (a≤b))) σ):AM A (EC .LtE) (.int a) (.int b) σ Φ:=fun s u v g r1 r2=>by
 refine AY (VR.inv_int r1) fun zz m=>?_;subst m;refine AY (VR.inv_int r2) fun zz n=>?_;subst n;exact PyProof.Rows.le_int ⟨.bool _,σ,.bool _,g,.refl _ _,q⟩
theorem QF(q:Φ (.int (-a)) σ):KO A (unaryOp .USub) (.int a) σ Φ:=fun s u g n=>by
 refine AY (VR.inv_int n) fun zz m=>?_;subst m;exact PyProof.Rows.neg_int (M5 g (.int _ _) q _)
theorem iN{x:AV}{b:Bool}{Φ:AV→AA→Prop}(e:∀h v,VR h x v→(v== .none)=b)(q:Φ (.bool b) σ):AM A (EC .Is) x .none σ Φ:=fun s u v g m n=>by
 obtain rfl:=Xp n;exact is_none ⟨.bool b,σ,by rw[e _ _ m];exact .bool _,g,.refl _ _,q⟩
theorem Zdg(q:Φ (.bool (not ((a==b)))) σ):AM A (EC .IsNot) (.bool a) (.bool b) σ Φ:=fun s u v g m n=>by
 obtain rfl:=QC m;obtain rfl:=QC n;exact wpAny_isNot_plain rfl ⟨.bool (not ((a==b))),σ,by cases a<;>cases b<;>exact .bool _,g,.refl _ _,q⟩
theorem Jk(q:Φ (.bool (a==b)) σ):AM A (EC .Eq) (.str a) (.str b) σ Φ:=fun s u v g r1 r2=>by
 refine AY (VR.inv_str r1) fun zz m=>?_;subst m;refine AY (VR.inv_str r2) fun zz n=>?_;subst n;exact PyProof.Rows.eq_str ⟨_,σ,.bool _,g,.refl _ _,q⟩
theorem Zdb(q:Φ (.bool (a != b)) σ):AM A (EC .NotEq) (.str a) (.str b) σ Φ:=fun s u v g r1 r2=>by
 refine AY (VR.inv_str r1) fun zz m=>?_;subst m;refine AY (VR.inv_str r2) fun zz n=>?_;subst n;exact PyProof.Rows.ne_str ⟨_,σ,.bool _,g,.refl _ _,q⟩
theorem VRs.toArr{items:Array Value}(r:VRs h xs items.toList):items.size=xs.length:=by rw[r.length,Gz]
theorem VRs.appendA{a b:Array Value}(r:VRs h xs a.toList)(q:VRs h ys b.toList):VRs h (xs++ys) (a++b).toList:=by rw[Array.toList_append];exact r.append q
theorem NV(hl:xs.length+ys.length≤100000)(q:Φ (.tup (xs++ys)) σ):AM A (Ke .Add) (.tup xs) (.tup ys) σ Φ:=fun s u v g r1 r2=>by
 cases r1 with
 |@tup a _ i1 n1 n q1=>
  cases r2 with
  |@tup b _ i2 n2 m q2=>
   have l1:=q1.toArr;have l2:=q2.toArr;by_cases h1:i1.isEmpty=true
   ·have z:xs=[]:=Lp (by rw[←l1];simpa using h1);subst z;refine concat_meets ⟨_,n,rfl⟩ ⟨_,m,rfl⟩ noFill_tuple_add seq_tuple_add F.slot_tuple_add F.entry_tuple_add (F.args_tuple_add_2 _ _) (tuple_addW0 a b i1 i2 n1 n2 none none #[] #[] h1) ⟨n,m,?_⟩;exact⟨.tup ys,σ,.tup m q2,g,.refl _ _,q⟩
   ·by_cases h2:i2.isEmpty=true
    ·have z:ys=[]:=Lp (by rw[←l2];simpa using h2);subst z;refine concat_meets ⟨_,n,rfl⟩ ⟨_,m,rfl⟩ noFill_tuple_add seq_tuple_add F.slot_tuple_add F.entry_tuple_add (F.args_tuple_add_2 _ _) (tuple_addW1 a b i1 i2 n1 n2 none none #[] #[] h1 h2) ⟨n,m,?_⟩;exact⟨.tup xs,σ,.tup n q1,g,.refl _ _,by rw[T8]at q;exact q⟩
    ·refine P.add_tuple n m h1 h2 ⟨.tup (xs++ys),σ,.tup (B2 _ rfl) ((q1.appendA q2).mono fun zz zz zz zz e zz zz=>BC _ e),g.push _,.push _,q⟩ (by rw[CJ];exact Cf Wk hl l1 l2)
theorem Ka(e1:σ a=some (.list xs))(e2:σ b=some (.list ys))(hl:xs.length+ys.length≤100000)
  (q:∀D,σ D=none→hb.get? D=none→Φ (.ref D) (upd σ D (.list (xs++ys)))):AM A (Ke .Add) (.ref a) (.ref b) σ Φ:=fun s u v g r1 r2=>by
 obtain rfl:=Bi r1;obtain rfl:=Bi r2;refine Cn ((g.own _ _ e1).2) fun i1 n1 o1 n=>?_;refine Cn ((g.own _ _ e2).2) fun i2 n2 o2 q2=>?_;have l1:=n.toArr;have l2:=q2.toArr;refine P.add_list o1 o2 ⟨.ref _,upd σ s.heap.objs.size (.list (xs++ys)),.ref _,g.pushOwn _ ⟨_,_,B2 _ rfl,(n.appendA q2).mono fun m m m m e m m=>BC _ e⟩,.pushOwn _ _,q _ g.fresh.1 g.fresh.2⟩ (by rw[CJ];exact Cf Wk hl l1 l2)
theorem FC(e:σ l=some (.list xs))(hl:xs.length≤100000)(q:Φ .none (upd σ l (.list (xs++[x])))):
  AF A (.builtin "list.append") [.ref l,x] σ Φ:=fun s vs g r=>by
 cases r with
 |cons r1 r2=>
  obtain rfl:=Bi r1;cases r2 with
  |cons r2 r3=>
   cases r3;refine Cn ((g.own _ _ e).2) fun items n o qs=>?_;have l1:=qs.toArr;refine YW ⟨n,o⟩ (fun h' m hs=>AY m fun n' o'=>⟨.none,_,.none,g.set (y:=.list (xs++[x])) e hs fun tk=>⟨_,n',o',by rw[QT];exact(qs.mono tk).append (.one (r2.mono tk))⟩,.set e hs rfl rfl,q⟩) (by rw[CJ];exact ln (AK (Ac l1) hl) rfl)
set_option tactic.hygienic true in
theorem FS(e:σ l=some (.list (xs++[x])))(hl:xs.length≤100000)(q:Φ x (upd σ l (.list xs))):
  AF A (.builtin "list.pop") [.ref l] σ Φ:=fun s vs g r=>by
 cases r with
 |cons r1 r2=>
  obtain rfl:=Bi r1;cases r2;refine Cn ((g.own _ _ e).2) fun items n o qs=>?_;have l1:=qs.toArr;rw[BJ,DD]at l1;refine FN qs.split fun us ws e2 ru a0=>?_;cases a0 with
  |cons rx rn=>
   cases rn;rename_i v;have hy:items[items.size-1]? =some v:=by
    rw[←Dx,e2,l1,ru.length];simp
   refine call_meets FW ⟨_,o,rfl⟩ F.entry_list_pop (F.args_list_pop_1 _) (PySem.MeetsSeq.list_pop_last l items n v hy (by rw[CJ];exact ln (AK (Ac l1) (CG hl)) rfl)) ⟨o,?_⟩;have hs:FH l s.heap (s.heap.update l (Dd fun xs=>xs.eraseIdxIfInBounds (items.size-1))):=Eo ..;have tk:Bt s.heap _:=fun b ob it m e' c d=>(hs.2 b (by rintro rfl;obtain rfl:=Ao ((o.symm.trans e'));simp at c)).trans e';refine⟨x,upd σ l (.list xs),rx.mono tk,g.set (y:=.list xs) e hs fun tk=>⟨items.eraseIdxIfInBounds (items.size-1),_,GY _ o rfl,?_⟩,.set e hs rfl rfl,q⟩;have:(items.eraseIdxIfInBounds (items.size-1)).toList=us:=by
    rw[show items=(us++[v]).toArray from by rw[←e2]];rw[show((us++[v]).toArray).size-1=us.length by simp];rw[show(us++[v]).toArray.eraseIdxIfInBounds us.length=((us++[v]).eraseIdx us.length).toArray by simp];rw[List.eraseIdx_append_of_length_le (A9 _)];simp
   rw[this];exact ru.mono tk
theorem ij(e:σ l=some (.list xs))(e2:σ b=some (.list ys))(hl:xs.length+ys.length≤100000)(q:Φ .none (upd σ l (.list (xs++ys)))):
  AF A (.builtin "list.extend") [.ref l,.ref b] σ Φ:=fun s vs g r=>by
 cases r with
 |cons r1 r2=>
  obtain rfl:=Bi r1;cases r2 with
  |cons r2 r3=>
   cases r3;obtain rfl:=Bi r2;refine Cn ((g.own _ _ e).2) fun items n o qs=>?_;refine Cn ((g.own _ _ e2).2) fun m n2 o2 a1=>?_;have l1:=qs.toArr;have l2:=a1.toArr;have a0:¬(not (items.isEmpty)&&jL (items.size+m.size))=true:=by
    have:jL (items.size+m.size)=false:=by
     unfold jL;rw[CJ];simp;exact Cf Wk hl l1 l2
    rw[this];simp
   refine call_meets jM ⟨_,o,rfl⟩ F.entry_list_extend (F.args_list_extend_2 _ _) (AutoSeq1.list_extend_list_list_0 l items n b m n2 a0 (by rw[CJ];exact BS zh hl l1) (by rw[CJ];exact Cf uM hl l1 l2)) ⟨o,o2,?_⟩;have hs:FH l s.heap (s.heap.update l (Dd fun xs=>xs++m)):=Eo ..;exact⟨.none,_,.none,g.set (y:=.list (xs++ys)) e hs fun tk=>⟨items++m,_,GY _ o rfl,(qs.mono tk).appendA (a1.mono tk)⟩,.set e hs rfl rfl,q⟩
theorem Cj(e:σ l=some (.list xs))(hl:xs.length≤1000000)(q:Φ (.int xs.length) σ):AF A (.builtin "len") [.ref l] σ Φ:=fun s vs g r=>by
 cases r with
 |cons r1 r2=>
  obtain rfl:=Bi r1;cases r2;refine Cn ((g.own _ _ e).2) fun items n o m=>?_;have l1:=m.toArr;refine Calls.call_len_list ⟨_,o,rfl,n,rfl⟩ (by rw[l1];exact Q1 hl) ⟨.int xs.length,σ,by rw[l1];exact .int _ _,g,.toks _,q⟩
theorem Zcu(hl:xs.length≤1000000)(q:Φ (.int xs.length) σ):AF A (.builtin "len") [.tup xs] σ Φ:=fun s vs g r=>by
 cases r with
 |cons r1 r2=>
  cases r2;cases r1 with
  |@tup a _ items n e m=>
   have l1:=m.toArr;exact P.len_tuple e (by rw[l1];exact Int.not_le.mpr (Q1 hl)) ⟨.int xs.length,σ,by rw[l1];exact .int _ _,g,.toks _,q⟩
section
variable {K:Type} [DecidableEq K] {V:Type}
def AH(es:List (K×V))(k:K):Option V:=(es.find? fun p=>p.1=k).map (·.2)
def Av(es:List (K×V))(k:K)(v:V):List (K×V):=if(AH es k).isSome then es.map fun p=>if p.1=k then(p.1,v)else p else es++[(k,v)]
def BP(es:List (K×V))(k:K):List (K×V):=es.filter fun p=>decide (p.1≠k)
theorem Fb{p:K×V}{k:K}:AH (p::es) k=if p.1=k then some p.2 else AH es k:=by
 unfold AH;rw[YX];by_cases e:p.1=k<;>simp[e]
theorem Ct.look:∀{es:List (K×AV)}{kvs:List (K×Value)}(r:Ct h es kvs)(k:K),(AH es k=none→L1 kvs k=none)∧∀x,AH es k=some x→∃v,L1 kvs k=some v∧VR h x v
 :=fun r k=>by
  induction r with
  |nil=>exact⟨fun zz=>rfl,fun x e=>by simp[AH]at e⟩
  |@cons k' x v _ _ r rs m=>
  have n:∀kvs:List (K×Value),L1 ((k',v)::kvs) k=if k'=k then some v else L1 kvs k:=fun kvs=>by
   unfold L1;rw[YX];by_cases e:k'=k<;>simp[e]
  rw[Fb,n];by_cases e:k'=k
  ·simp only[if_pos e];exact⟨fun q=>by simp at q,fun y q=>by obtain rfl:=Ao q;exact⟨v,rfl,r⟩⟩
  ·simp only[if_neg e];exact m
theorem Ct.length:∀{es:List (K×AV)}{kvs:List (K×Value)},Ct h es kvs→es.length=kvs.length:=fun r=>by induction r with|nil=>rfl|cons _ _ m=>exact congrArg (· +1) m
theorem Ct.app:∀{es m:List (K×AV)}{kvs n:List (K×Value)},Ct h es kvs→Ct h m n→Ct h (es++m) (kvs++n):=fun r q=>by induction r with|nil=>exact q|cons a _ ih=>exact .cons a ih
theorem Ct.mapPut(r:VR h x v):∀{es:List (K×AV)}{kvs:List (K×Value)},Ct h es kvs→Ct h (es.map fun p=>if p.1=k then(p.1,x)else p) (kvs.map fun p=>if p.1=k then(p.1,v)else p)
 :=fun q=>by
  induction q with
  |nil=>exact .nil
  |@cons k' _ _ _ _ a _ m=>
   rw[CF,CF];by_cases e:k'=k
   ·simp only[if_pos e];exact .cons r m
   ·simp only[if_neg e];exact .cons a m
theorem nj{k:K}:(kvs.any fun n=>n.1=k)=(L1 kvs k).isSome:=by
 unfold L1;rw[Option.isSome_map]
 induction kvs with
 |nil=>rfl
 |cons p r m=>
  rw[List.any_cons,YX];by_cases e:p.1=k<;>simp[e,m]
theorem Ct.put{h:A5}{es:List (K×AV)}(r:Ct h es kvs){k:K}{x:AV}{v:Value}(q:VR h x v):Ct h (Av es k x) (stored kvs k v):=by
 have l:=r.look k;unfold Av stored;rw[nj];cases e:AH es k with
 |none=>
  rw[l.1 e];exact r.app (.cons q .nil)
 |some y=>
  refine AI (l.2 y e) fun v' m n=>?_;rw[m];exact r.mapPut q
theorem Ct.drop:∀{es:List (K×AV)}{kvs:List (K×Value)},Ct h es kvs→Ct h (BP es k) (without kvs k)
 :=fun r=>by
  induction r with
  |nil=>exact .nil
  |@cons k' _ _ _ _ a b m=>
  unfold BP without at m ⊢;rw[L7,L7];by_cases e:k'=k
  ·simpa[e]using m
  ·simp only[ne_eq,e,not_false_eq_true,decide_true,if_true];exact .cons a m
theorem DU.look:∀{es:List (K×AV)}{xs:List (K×AB×Value)}(r:DU h es xs)(k:K),(AH es k=none→Kh xs k=none)∧∀x,AH es k=some x→∃p,Kh xs k=some p∧VR h x p.2
 :=fun r k=>by
  induction r with
  |nil=>exact⟨fun zz=>rfl,fun x e=>by simp[AH]at e⟩
  |@cons k' a x v _ _ r rs m=>
  have n:∀xs:List (K×AB×Value),Kh ((k',a,v)::xs) k=if k'=k then some (a,v)else Kh xs k:=fun xs=>by
   unfold Kh;rw[YX];by_cases e:k'=k<;>simp[e]
  rw[Fb,n];by_cases e:k'=k
  ·simp only[if_pos e];exact⟨fun q=>by simp at q,fun y q=>by obtain rfl:=Ao q;exact⟨_,rfl,r⟩⟩
  ·simp only[if_neg e];exact m
theorem DU.length:∀{es:List (K×AV)}{xs:List (K×AB×Value)},DU h es xs→es.length=xs.length:=fun r=>by induction r with|nil=>rfl|cons _ _ m=>exact congrArg (· +1) m
theorem DU.app:∀{es m:List (K×AV)}{kvs n:List (K×AB×Value)},DU h es kvs→DU h m n→DU h (es++m) (kvs++n):=fun r q=>by induction r with|nil=>exact q|cons a _ ih=>exact .cons a ih
theorem DU.mapPut(r:VR h x v):∀{es:List (K×AV)}{xs:List (K×AB×Value)},DU h es xs→DU h (es.map fun p=>if p.1=k then(p.1,x)else p) (xs.map (putAt k v))
 :=fun q=>by
  induction q with
  |nil=>exact .nil
  |@cons k' _ _ _ _ _ a _ m=>
   rw[CF,CF];unfold putAt at m ⊢;by_cases e:k'=k
   ·simp only[if_pos e];exact .cons r m
   ·simp only[if_neg e];exact .cons a m
theorem DU.put{h:A5}{es:List (K×AV)}(r:DU h es xs){k:K}{a:AB}{x:AV}{v:Value}(q:VR h x v):DU h (Av es k x) (storedH xs k a v):=by
 have l:=r.look k;unfold Av storedH;cases e:AH es k with
 |none=>
  rw[l.1 e];exact r.app (.cons q .nil)
 |some y=>
  refine AI (l.2 y e) fun p m n=>?_;rw[m];exact r.mapPut q
def LC(xs:List (K×AB×Value))(k:K):List (K×AB×Value):=xs.filter fun p=>decide (p.1≠k)
theorem DU.drop:∀{es:List (K×AV)}{xs:List (K×AB×Value)},DU h es xs→DU h (BP es k) (LC xs k)
 :=fun r=>by
  induction r with
  |nil=>exact .nil
  |@cons k' _ _ _ _ _ a b m=>
  unfold BP LC at m ⊢;rw[L7,L7];by_cases e:k'=k
  ·simpa[e]using m
  ·simp only[ne_eq,e,not_false_eq_true,decide_true,if_true];exact .cons a m
end
theorem pW(r:VR h a.av v):(OI pg w).is a v=true:=by
 cases a with
 |int i=>refine AY r.inv_int fun t m=>?_;subst m;exact beq_self_eq_true i
 |str x=>refine AY r.inv_str fun t n=>?_;subst n;exact beq_self_eq_true x
end
section
variable {σ σ' σ'' τ τ':AA} {s s' s'':AN} {h h':A5} {A:AX} {env:Af} {ρ ρ':AW}
def VZ(A:AX)(t:Value→Value→Sem Unit)(x y:AV)(σ:AA)(Φ:AA→Prop):Prop:=
 ∀s u v,G σ s.heap→VR s.heap x u→VR s.heap y v→SZ A (t u v) σ s Φ
def Qk(A:AX)(x y z:AV)(σ:AA)(Φ:AA→Prop):Prop:=
 ∀s u v t,G σ s.heap→VR s.heap x u→VR s.heap y v→VR s.heap z t→SZ A (setItem u v t) σ s Φ
structure DK(w:AD)(K:Type)[DecidableEq K] where
 knd:KeyKind pg w K
 tab:List (K×AV)→AO
 ka:K→AV
 at_:∀h a es,Ee w h a (tab es)↔∃kvs,h.DictOf knd a kvs∧Ct h es kvs
 key:∀h k v,VR h (ka k) v→knd.is k v=true∧(keyPart v).isSome=true∧VR h (ka k) v
def Fh(w:AD):DK w Int where
 knd:=FG pg w
 tab:=.dictI
 ka:=.int
 at_:=fun h a es=>Iff.rfl
 key:=fun h k v r=>by refine AY r.inv_int fun t m=>?_;subst m;exact⟨beq_self_eq_true k,rfl,r⟩
def Zd(w:AD):DK w Str where
 knd:=strKind pg w
 tab:=.dictS
 ka:=.str
 at_:=fun h a es=>Iff.rfl
 key:=fun h k v r=>by refine AY r.inv_str fun t m=>?_;subst m;exact⟨beq_self_eq_true k,rfl,r⟩
section
variable {K:Type} [DecidableEq K] (D:DK w K) {d:AB} {es:List (K×AV)} {k:K}
theorem DK.get(e:σ d=some (D.tab es))(m:AH es k=some x)(q:Φ x σ):AM A Ip (.ref d) (D.ka k) σ Φ:=fun s u v g n r2=>by
 obtain rfl:=Bi n;refine AI ((D.at_ _ _ _).mp (g.own _ _ e).2) fun kvs hm rs=>?_;refine AI ((rs.look k).2 x m) fun y hy ry=>?_;exact wpAny_getItem_of (D.key _ _ _ r2).1 hm.mapOf hy ⟨x,σ,ry,g,.toks _,q⟩
theorem DK.set{x:AV}{Φ:AA→Prop}(e:σ d=some (D.tab es))(hz:es.length≤100000)(q:Φ (upd σ d (D.tab (Av es k x)))):Qk A (.ref d) (D.ka k) x σ Φ:=fun s u v t g r1 r2 r3=>by
 obtain rfl:=Bi r1;refine AI ((D.at_ _ _ _).mp (g.own _ _ e).2) fun kvs hm n=>?_;have hl:=n.length;refine wpAny_setItem_pairs (D.key _ _ _ r2).1 hm (fun h' m hs=>?_) (by rw[CJ];exact ln (AK (Ac hl.symm) hz) rfl);exact⟨_,g.set (y:=D.tab (Av es k x)) e hs fun tk=>(D.at_ _ _ _).mpr ⟨_,m,(n.mono tk).put (r3.mono tk)⟩,.set e hs rfl rfl,q⟩
theorem Zdw(e:σ d=some (D.tab es))(hz:es.length≤100000)(hl:(AH es k).isSome=true)(q:Φ (upd σ d (D.tab (BP es k)))):VZ A Nw (.ref d) (D.ka k) σ Φ:=fun s u v g r1 r2=>by
 obtain rfl:=Bi r1;refine AI ((D.at_ _ _ _).mp (g.own _ _ e).2) fun kvs hm rs=>?_;have a0:=rs.length;have m:(L1 kvs k).isSome=true:=by
  refine AY (Lu.mp hl) fun x z=>?_;refine AI ((rs.look k).2 x z) fun y hy zz=>?_;rw[hy];rfl
 refine jN hm.typeIs ⋯ YY ?_;refine Tv YY hm.typeIs F.entry_dict_delitem (F.args_dict_delitem_2 _ _) (PySem.meets_dict_delitem_pairs D.knd d (D.key _ _ _ r2).1) ⟨kvs,hm,(by rw[CJ];exact ln (AK (Ac a0.symm) hz) rfl),m,fun h' n hs=>?_⟩;exact⟨_,g.set (y:=D.tab (BP es k)) e hs fun tk=>(D.at_ _ _ _).mpr ⟨_,n,(rs.mono tk).drop⟩,.set e hs rfl rfl,q⟩
theorem DK.pop(e:σ d=some (D.tab es))(hz:es.length≤100000)(hl:AH es k=some x)(q:Φ x (upd σ d (D.tab (BP es k)))):AF A (.builtin "dict.pop") [.ref d,D.ka k] σ Φ:=fun s vs g r=>by
 cases r with
 |cons r1 n=>
  obtain rfl:=Bi r1;cases n with
  |cons n r3=>
   cases r3;refine AI ((D.at_ _ _ _).mp (g.own _ _ e).2) fun kvs hm rs=>?_;have a1:=rs.length;refine AI ((rs.look k).2 x hl) fun y hy ry=>?_;have hk:=D.key _ _ _ n;refine Tv YZ hm.typeIs F.entry_dict_pop (F.args_dict_pop_2 _ _) (PySem.meets_dict_pop_there D.knd d hk.1 [] (.inl rfl) hk.2.1) ⟨kvs,y,hm,(by rw[CJ];exact ln (AK (Ac a1.symm) hz) rfl),hy,fun h' a0 hs=>?_⟩;have gs:=g.set (y:=D.tab (BP es k)) e hs fun tk=>(D.at_ _ _ _).mpr ⟨_,a0,(rs.mono tk).drop⟩;have st:Aq σ s (upd σ d (D.tab (BP es k))) {s with heap:=h',toks:=s.toks+1}:=.set e hs rfl rfl;refine B3 ((g.own _ _ e).2.there) fun ob eo c1 zz=>?_;have tk:Bt s.heap h':=fun b o it m e' c d'=>(hs.2 b (by rintro rfl;obtain rfl:=Ao ((eo.symm.trans e'));exact c1 c _ _ d')).trans e';exact⟨x,_,ry.mono tk,gs,st,q⟩
theorem Zcz(e:σ d=some (D.tab es))(n1:d≠1)(hz:es.length≤100000)(q1:∀y,AH es k=some y→Φ y σ)(q2:AH es k=none→Φ x (upd σ d (D.tab (Av es k x)))):
  AF A (.builtin "dict.setdefault") [.ref d,D.ka k,x] σ Φ:=fun s vs g r=>by
 cases r with
 |cons r1 r2=>
  obtain rfl:=Bi r1;cases r2 with
  |cons r2 r3=>
   cases r3 with
   |cons r3 r4=>
    cases r4;refine AI ((D.at_ _ _ _).mp (g.own _ _ e).2) fun kvs hm rs=>?_;have a1:=rs.length;have hk:=D.key _ _ _ r2;refine Tv T9 hm.typeIs Zf4 (Zf5 _ _ _) (PySem.kt_meets_setdefault D.knd d hk.1 (beq_eq_false_iff_ne.mpr n1) _) ⟨kvs,hm,(by rw[CJ];exact ln (AK (Ac a1.symm) hz) rfl),fun v hv=>?_,fun hv h' a0 hs=>?_⟩
    ·cases z:AH es k with
     |none=>exact As ((((rs.look k).1 z).symm.trans hv))
     |some y=>
      refine AI ((rs.look k).2 y z) fun v' n ry=>?_;obtain rfl:=Ao ((n.symm.trans hv));exact⟨y,σ,ry,g,.toks _,q1 y z⟩
    ·have z:AH es k=none:=by
      cases z:AH es k with
      |none=>rfl
      |some y=>refine AI ((rs.look k).2 y z) fun v' n zz=>?_;exact Bh ((n.symm.trans hv))
     refine B3 ((g.own _ _ e).2.there) fun ob eo c1 zz=>?_;have tk:Bt s.heap h':=fun b o it m e' c d'=>(hs.2 b (by rintro rfl;obtain rfl:=Ao ((eo.symm.trans e'));exact c1 c _ _ d')).trans e';exact⟨x,_,r3.mono tk,g.set (y:=D.tab (Av es k x)) e hs fun tk=>(D.at_ _ _ _).mpr ⟨_,a0,(rs.mono tk).put (r3.mono tk)⟩,.set e hs rfl rfl,q2 z⟩
end
end
section
variable {σ σ' σ'' τ τ':AA} {s s' s'':AN} {h h':A5} {A:AX} {env:Af} {ρ ρ':AW}
abbrev TK(w:AD):HeapKind pg w (List B7):=tupleKind (OI pg w)
abbrev B1(ks:List B7):AV:=.tup (ks.map B7.av)
theorem xU{ks:List B7}{vs:List Value}(r:VRs h (ks.map B7.av) vs):ItemsAre (OI pg w) ks vs:=VRs.ind (P:=fun xs vs=>∀ks:List B7,xs=ks.map B7.av→ItemsAre (OI pg w) ks vs) (fun ks e=>by cases ks with|nil=>exact .nil|cons k ks=>cases e) (fun{x v xs vs} a b m ks e=>by
 cases ks with
 |nil=>cases e
 |cons k ks=>have e:=jO e;exact .cons (pW (e.1▸a)) (m _ e.2)) r ks rfl
theorem J8(r:VR h (B1 ks) v):∃a,v=.ref a∧(TK w).is h ks a:=by
 cases r with
 |@tup a _ items n e m=>exact⟨a,rfl,_,items,n,e,rfl,rfl,xU m⟩
section
variable {xs:List (List B7×AB×Value)} {d a:AB} {k:List B7} {E:Value→AN→Prop}
theorem s9:∀{j:Nat},(xs.map (·.1)).Nodup→xs[j]? =some (k,p)→xs.eraseIdx j=LC xs k:=by
 induction xs with
 |nil=>intro _ _ e;exact As e
 |cons y r n=>
  intro j m e;rw[CF,FU]at m;unfold LC;cases j with
  |zero=>
   obtain rfl:=Ao e;rw[L7,if_neg (by simp)];exact(Zf6.mpr fun z hz=>by
    have:z.1≠k:=fun q=>m.1 (by rw[←q];exact BD.mpr ⟨z,hz,rfl⟩);simpa using this).symm
  |succ j=>
   have e:r[j]? =some (k,p):=e;have:y.1≠k:=fun(q:y.1=k)=>m.1 (q▸BD.mpr ⟨_,DE e,rfl⟩);rw[jP,n m.2 e,L7,if_pos (by simpa using this)];rfl
theorem cv{α β:Type}(f:α→β):∀(l:List α)(j:Nat),(l.map f).eraseIdx j=(l.eraseIdx j).map f
 |[],_=>rfl
 |_::_,0=>rfl
 |x::l,j+1=>by rw[CF,jP,jP,CF,cv f l j]
theorem ei(hu:(TK w).room A)(m:(TK w).is s.heap k a)(hm:s.heap.DictOfH (TK w) d xs)(hp:Kh xs k=some p)
  (hQ:∀e h',e.val=p.2→h'.DictOfH (TK w) d (LC xs k)→FH d s.heap h'→Q (some e) {s with heap:=h',toks:=s.toks+(TK w).draws k})(a2:xs.length≤Nu):
  AR (Ae pg w) A (jQ d (.ref a)) Q E s:=by
 refine OP hm fun o es ep ho hc hd he n hn=>?_;unfold jQ
 try with_reducible refine CI ?_
 refine AE ((TK w).pyHash hu m (AE (wpAny_dictFind_heap (s:={s with toks:=s.toks+(TK w).draws k}) hu m ho hd he n hn ?_ ?_)))
 ·intro a1;exact As (((UA a1).symm.trans hp))
 ·intro j q hj;obtain rfl:=Ao (((atKey_of_get hn hj).symm.trans hp));refine AE (jR (s:={s with toks:=s.toks+(TK w).draws k}) ho hd ?_);rw[entry_at he j,hj];have hs:FH d s.heap (s.heap.update d (Obj.mapDictKeys fun x=>x.eraseIdxIfInBounds j)):=Eo ..;have a0:es.size=xs.length:=jS he;refine AE (wpAny_updateDictKeys (s:={s with toks:=s.toks+(TK w).draws k}) ho hd (Ad (hQ _ _ rfl ⟨_,_,ep+1,GY _ ho (YR (Yb hd _)),hc.mapDictKeys _,Yb hd _,?_,fun x hx=>?_,?_⟩ hs)) (!AK (Ac a0) a2) (by simp[Array.eraseIdxIfInBounds];split<;>simp<;>exact A6 ew))
  ·rw[←s9 hn hj];have a3:j<es.size:=by rw[a0];exact(BY.mp hj).1
   rw[show(es.eraseIdxIfInBounds j).toList=es.toList.eraseIdx j by obtain⟨l⟩:=es;simp,he,cv]
  ·exact(TK w).keeps (n x (Dn.mp hx).1) ho hd hs
  ·have:(LC xs k).map (·.1)=(xs.map (·.1)).filter fun y=>decide (y≠k):=by
    unfold LC;rw[Js];rfl
   rw[this];exact hn.filter _
end
section
variable {d:AB} {es:List (List B7×AV)} {k:List B7}
theorem iP(hu:A.in1.units<H0)(e:σ d=some (.dictT es))(n1:d≠1)(q:Φ (.bool (AH es k).isSome) σ):AM A (EC .In) (B1 k) (.ref d) σ Φ:=fun s u v g r1 r2=>by
 obtain rfl:=Bi r2;refine AI ((g.own _ _ e).2) fun xs hm rs=>?_;refine AI (J8 r1) fun a m hk=>?_;subst m;have n:(Kh xs k).isSome=(AH es k).isSome:=by
  cases z:AH es k with
  |none=>rw[(rs.look k).1 z];rfl
  |some x=>refine AI ((rs.look k).2 x z) fun y hy zz=>?_;rw[hy];rfl
 exact wpAny_in_heap (knd:=TK w) hu hk (beq_eq_false_iff_ne.mpr n1) hm ⟨.bool _,σ,by rw[n];exact .bool _,g,.toks _,q⟩
theorem Zcx(hu:A.in1.units<H0)(e:σ d=some (.dictT es))(n1:d≠1)(q:Φ (.bool (not ((AH es k).isSome))) σ):AM A (EC .NotIn) (B1 k) (.ref d) σ Φ:=fun s u v g r1 r2=>by
 obtain rfl:=Bi r2;refine AI ((g.own _ _ e).2) fun xs hm rs=>?_;refine AI (J8 r1) fun a n hk=>?_;subst n;have m:(Kh xs k).isSome=(AH es k).isSome:=by
  cases z:AH es k with
  |none=>rw[(rs.look k).1 z];rfl
  |some x=>refine AI ((rs.look k).2 x z) fun y hy zz=>?_;rw[hy];rfl
 show AR _ _ (do return Value.bool (not ((←contains (.ref d) (.ref a))))) _ _ s
 refine AE ?_;unfold contains
 try with_reducible refine CI ?_
 refine AE (UB hm.typeIs jT.lookup ?_);show AR _ _ (if(some (Value.builtin "dict.__contains__")==some MA)=true then _ else _) _ _ s;rw[if_neg (by rw[beq_builtin_none];exact Gx)];refine AE (wpAny_callSpecialUnlessNone?_slot (name:=QU "__contains__") hm.typeIs jT
  (HT jT hm.typeIs entry_dict_contains ?_ (args_dict_contains _ _)))
 show AR _ _ (dictGet d (.ref a)>>=_) _ _ s;refine AE (wpAny_dictGet_heap (knd:=TK w) hu hk hm ?_);cases hf:Kh xs k with
 |some p=>
  show AR _ _ (ret (.bool true)) _ _ _;refine Ad ⟨_,rfl,QJ (Ad ⟨.bool _,σ,?_,g,.toks _,q⟩)⟩;rw[←m,hf];exact .bool _
 |none=>
  show AR _ _ (Builtin.Dict.pendingKey? d (.ref a)>>=_) _ _ _;refine AE (wpAny_pendingKey_other (beq_eq_false_iff_ne.mpr n1) (Ad ⟨_,rfl,QJ (Ad ⟨.bool _,σ,?_,g,.toks _,q⟩)⟩));rw[←m,hf];exact .bool _
theorem DT.get(hu:A.in1.units<H0)(e:σ d=some (.dictT es))(hl:AH es k=some x)(q:Φ x σ):AM A Ip (.ref d) (B1 k) σ Φ:=fun s u v g n r2=>by
 obtain rfl:=Bi n;refine AI ((g.own _ _ e).2) fun xs hm rs=>?_;refine AI (J8 r2) fun a m hk=>?_;subst m;refine AI ((rs.look k).2 x hl) fun y hy ry=>?_;exact wpAny_getItem_heap (knd:=TK w) hu hk hm hy ⟨x,σ,ry,g,.toks _,q⟩
theorem Zea(hu:A.in1.units<H0)(e:σ d=some (.dictT es))(n1:d≠1)(q:Φ ((AH es k).getD x) σ):AF A (.builtin "dict.get") [.ref d,B1 k,x] σ Φ:=fun s vs g r=>by
 cases r with
 |cons r1 n=>
  obtain rfl:=Bi r1;cases n with
  |cons n r3=>
   cases r3 with
   |cons r3 r4=>
    cases r4;refine AI ((g.own _ _ e).2) fun xs hm rs=>?_;refine AI (J8 n) fun a m hk=>?_;subst m;refine Tv F.slot_dict_get hm.typeIs F.entry_dict_get (F.args_dict_get_3 _ _ _) (meetsH_dict_get_default (TK w) d a (beq_eq_false_iff_ne.mpr n1) _) ⟨hu,k,xs,hk,hm,?_⟩;refine⟨_,σ,?_,g,.toks _,q⟩;cases z:AH es k with
    |none=>rw[(rs.look k).1 z];exact r3
    |some y=>refine AI ((rs.look k).2 y z) fun p hp ry=>?_;rw[hp];exact ry
theorem DT.set{x:AV}{Φ:AA→Prop}(hu:A.in1.units<H0)(e:σ d=some (.dictT es))(hz:es.length≤100000)(q:Φ (upd σ d (.dictT (Av es k x)))):Qk A (.ref d) (B1 k) x σ Φ:=fun s u v t g r1 r2 r3=>by
 obtain rfl:=Bi r1;refine AI ((g.own _ _ e).2) fun xs hm rs=>?_;refine AI (J8 r2) fun a m hk=>?_;subst m;have a0:=rs.length;refine wpAny_setItem_heap (knd:=TK w) hu hk hm (fun h' n hs=>?_) (by rw[CJ];exact ln (AK (Ac a0.symm) hz) rfl);exact⟨_,g.set (y:=.dictT (Av es k x)) e hs fun tk=>⟨_,n,(rs.mono tk).put (r3.mono tk)⟩,.set e hs rfl rfl,q⟩
theorem Zd7(hu:A.in1.units<H0)(e:σ d=some (.dictT es))(hz:es.length≤100000)(hl:(AH es k).isSome=true)(q:Φ (upd σ d (.dictT (BP es k)))):VZ A Nw (.ref d) (B1 k) σ Φ:=fun s u v g r1 r2=>by
 obtain rfl:=Bi r1;refine AI ((g.own _ _ e).2) fun xs hm rs=>?_;refine AI (J8 r2) fun a m hk=>?_;subst m;have a0:=rs.length;refine AY (Lu.mp hl) fun x z=>?_;refine AI ((rs.look k).2 x z) fun p hp zz=>?_;refine jN hm.typeIs ⋯ YY (HT YY hm.typeIs F.entry_dict_delitem ?_ (F.args_dict_delitem_2 _ _));unfold Builtin.«dict.__delitem__»;refine AE ?_;unfold Builtin.Dict.dictSlotArgs;refine AE (jU hm.typeIs ?_);show AR _ _ (pure (Ft d,Ft a)) _ _ s;refine Ad ?_;show AR _ _ (jQ d (.ref a)>>=_) _ _ s;refine AE (ei hu hk hm hp (fun en h' zz n hs=>?_) (by rw[CJ];exact ln (AK (Ac a0.symm) hz) rfl));exact AE (wpAny_letGo (Ad ⟨.none,rfl,_,g.set (y:=.dictT (BP es k)) e hs fun tk=>⟨_,n,(rs.mono tk).drop⟩,.set e hs rfl rfl,q⟩))
theorem DT.pop(hu:A.in1.units<H0)(e:σ d=some (.dictT es))(hz:es.length≤100000)(hl:AH es k=some x)(q:Φ x (upd σ d (.dictT (BP es k)))):AF A (.builtin "dict.pop") [.ref d,B1 k] σ Φ:=fun s vs g r=>by
 cases r with
 |cons r1 r2=>
  obtain rfl:=Bi r1;cases r2 with
  |cons r2 r3=>
   cases r3;refine AI ((g.own _ _ e).2) fun xs hm rs=>?_;refine AI (J8 r2) fun a a0 hk=>?_;subst a0;have a3:=rs.length;refine AI ((rs.look k).2 x hl) fun p hp ry=>?_;refine HT YZ hm.typeIs F.entry_dict_pop ?_ (F.args_dict_pop_2 _ _);unfold Builtin.«dict.pop»;refine AE ?_;unfold Zf7;refine AE (jU hm.typeIs ?_);show AR _ _ (pure (d,Ft a,none)) _ _ s;refine Ad ?_;refine OP (id hm) fun o n ep ho hc hd he a6 hn=>?_;dsimp only;rw[if_neg (show ¬(keyPart (Ft a)).isSome=true by simp[keyPart])];refine AE (jR ho hd (AE (Ad ?_)));have a5:n.isEmpty=false:=by
    have a1:n.size=xs.length:=jS he;cases q:n.isEmpty with
    |false=>rfl
    |true=>
     have:n.size=0:=by simpa using q
     have:xs=[]:=Lp (!Ep (AK (Ac a1.symm) (Ac this)) (Be _));rw[this]at hp;cases hp
   rw[a5,if_neg Gx];refine AE (ei hu hk hm hp (fun en h' a4 a2 hs=>?_) (by rw[CJ];exact ln (AK (Ac a3.symm) hz) rfl));have tk:Bt s.heap h':=fun b ob it m e' c d'=>(hs.2 b (by rintro rfl;obtain rfl:=Ao ((ho.symm.trans e'));rw[hc.1]at c;simp at c)).trans e';simp only[Option.isNone_some,HU,if_false];exact AE (wpAny_letGo (Ad ⟨en.val,rfl,x,_,by rw[a4];exact ry.mono tk,g.set (y:=.dictT (BP es k)) e hs fun tk=>⟨_,a2,(rs.mono tk).drop⟩,.set e hs rfl rfl,q⟩))
set_option tactic.hygienic true in
theorem iX(hu:A.in1.units<H0)(e:σ d=some (.dictT es))(n1:d≠1)(hz:es.length≤100000)(q1:∀y,AH es k=some y→Φ y σ)(q2:AH es k=none→Φ x (upd σ d (.dictT (Av es k x)))):
  AF A (.builtin "dict.setdefault") [.ref d,B1 k,x] σ Φ:=fun s vs g r=>by
 cases r with
 |cons r1 r2=>
  obtain rfl:=Bi r1;cases r2 with
  |cons r2 r3=>
   cases r3 with
   |cons r3 r4=>
    cases r4;refine AI ((g.own _ _ e).2) fun xs hm rs=>?_;refine AI (J8 r2) fun a a0 hk=>?_;subst a0;have a5:=rs.length;refine HT T9 hm.typeIs Zf4 ?_ (Zf5 _ _ _);unfold Builtin.«dict.setdefault»;refine AE ?_;unfold Zf7;refine AE (jU hm.typeIs ?_);rename_i vx;show AR _ _ (pure (d,Ft a,some vx)) _ _ s;refine Ad ?_;show AR _ _ (if(d==sysModules)=true then _ else(dictSetDefault d (.ref a) vx>>=_)) _ _ s;rw[if_neg (by rw[show(d==sysModules)=false from beq_eq_false_iff_ne.mpr n1];exact Gx)];refine AE ?_;refine OP (id hm) fun o a4 ep ho hc hd he a1 hn=>?_;have a3:a4.size=xs.length:=jS he;unfold dictSetDefault
    try with_reducible refine CI ?_
    refine AE ((TK w).pyHash hu hk (AE (wpAny_dictFind_heap (knd:=TK w) (s:={s with toks:=s.toks+(TK w).draws k}) hu hk ho hd he a1 hn ?_ ?_)))
    ·intro n;have z:AH es k=none:=by
      cases z:AH es k with
      |none=>rfl
      |some y=>refine AI ((rs.look k).2 y z) fun p hp _=>?_;exact As (((UA n).symm.trans hp))
     have hs:FH d s.heap (s.heap.update d (Obj.mapDictKeys fun x=>x.push ⟨(TK w).hash k,.ref a,vx⟩)):=Eo ..;have tk:Bt s.heap _:=fun b ob it m e' c d'=>(hs.2 b (by rintro rfl;obtain rfl:=Ao ((ho.symm.trans e'));rw[hc.1]at c;simp at c)).trans e';have a2:k∉xs.map (·.1):=not_mem_keys_of_get n;refine AE (MB (AE (wpAny_updateDictKeys (s:={s with toks:=s.toks+(TK w).draws k}) ho hd (Ad (Ad ⟨vx,rfl,x,upd σ d (.dictT (Av es k x)),r3.mono tk,g.set (y:=.dictT (Av es k x)) e hs (fun tk=>⟨storedH xs k a vx,⟨_,_,ep+1,GY _ ho (YR (Yb hd _)),hc.mapDictKeys _,Yb hd _,?_,fun y hy=>?_,?_⟩,(rs.mono tk).put (r3.mono tk)⟩),.set e hs rfl rfl,q2 z⟩)) (by rw[CJ];exact ln (AK (AK (Ac a3) (Ac a5.symm)) hz) rfl))))
     ·rw[storedH_new (UA n)];simp[he,entryOfKey]
     ·rw[storedH_new (UA n)]at hy;rcases CE.mp hy with hy|hy
      ·exact(TK w).keeps (a1 y hy) ho hd hs
      ·rw[Ap.mp hy];exact(TK w).keeps hk ho hd hs
     ·rw[storedH_new (UA n),Cw,Nx];refine⟨hn,by simp,?_⟩;intro y hy z hz;simp only[CF,List.map_nil,Ap]at hz;subst hz;exact fun e=>a2 (e▸hy)
    ·intro j p hj;refine AE (jR (s:={s with toks:=s.toks+(TK w).draws k}) ho hd ?_);rw[entry_at he j,hj];have hp:=atKey_of_get hn hj;cases z:AH es k with
     |none=>exact As ((((rs.look k).1 z).symm.trans hp))
     |some y=>
      refine AI ((rs.look k).2 y z) fun p' a6 ry=>?_;obtain rfl:=Ao ((hp.symm.trans a6));exact AE (MB (Ad (Ad ⟨_,rfl,y,σ,ry,g,.toks _,q1 y z⟩)))
end
end
section
variable {σ σ' σ'' τ τ':AA} {s s' s'':AN} {h h':A5} {A:AX} {env:Af} {ρ ρ':AW}
theorem En{l:AB}{xs:List AV}{i:Int}{x:AV}{Φ:AV→AA→Prop}(e:σ l=some (.list xs))(h0:0≤i)(hx:xs[i.toNat]? =some x)(hi:i<1000000)(q:Φ x σ):AM A Ip (.ref l) (.int i) σ Φ:=fun s u v g r1 r2=>by
 obtain rfl:=Bi r1;refine AY (VR.inv_int r2) fun zz m=>?_;subst m;refine Cn ((g.own _ _ e).2) fun items n o qs=>?_;refine AI (qs.get' hx) fun y hy ry=>?_;exact wpAny_getItem_list ⟨_,o,rfl,n,rfl⟩ h0 (bZ hi) (by rw[←Dx];exact hy) ⟨x,σ,ry,g,.refl _ _,q⟩
theorem Zdn{l:AB}{xs:List AV}{i:Int}{x:AV}{Φ:AV→AA→Prop}(e:σ l=some (.list xs))(h0:i<0)(h1:-(xs.length:Int)≤i)(hx:xs[(i+xs.length).toNat]? =some x)(hi:xs.length<1000000)(q:Φ x σ):AM A Ip (.ref l) (.int i) σ Φ:=fun s u v g r1 r2=>by
 obtain rfl:=Bi r1;refine AY (VR.inv_int r2) fun zz m=>?_;subst m;refine Cn ((g.own _ _ e).2) fun items n o qs=>?_;refine AI (qs.get' hx) fun y hy ry=>?_;have l1:=qs.toArr;exact wpAny_getItem_list_neg ⟨_,o,rfl,n,rfl⟩ h0 (by rw[l1];exact h1) (YF (Int.neg_le_neg (iy (Q1 (QQ hi)))) h1) (by rw[←Dx,l1];exact hy) ⟨x,σ,ry,g,.refl _ _,q⟩
theorem Zs{i:Int}{n:Nat}(m:0≤i)(h:i<n):seqIndex? i n=some i.toNat:=by
 unfold seqIndex?;rw[if_neg (jD.mpr m)];exact if_pos (by rw[decide_eq_true m,decide_eq_true h];rfl)
theorem Fk{xs:List AV}{i:Int}{x:AV}{Φ:AV→AA→Prop}(h0:0≤i)(hx:xs[i.toNat]? =some x)(hi:i<1000000)(q:Φ x σ):AM A Ip (.tup xs) (.int i) σ Φ:=fun s u v g r1 r2=>by
 refine AY (VR.inv_int r2) fun zz a0=>?_;subst a0;cases r1 with
 |@tup a _ items n e qs=>
  refine AI (qs.get' hx) fun y hy ry=>?_;have m:items[i.toNat]? =some y:=by rw[←Dx];exact hy
  have a1:i.toNat<items.size:=(Ny.mp m).1;exact P.getItem_tuple e (xf h0) (bZ hi) (Zs h0 ((Int.toNat_lt h0).mp a1)) m ⟨x,σ,ry,g,.refl _ _,q⟩
theorem Zem{a:Str}{i:Nat}{c:Nat}{Φ:AV→AA→Prop}(hc:a.cps[i]? =some c)(hi:i<1000000)(q:Φ (.str ⟨#[c]⟩) σ):AM A Ip (.str a) (.int i) σ Φ:=fun s u v g r1 r2=>by
 refine AY (VR.inv_str r1) fun zz n=>?_;subst n;refine AY (VR.inv_int r2) fun zz m=>?_;subst m;have a0:i<a.cps.size:=(Ny.mp hc).1;refine P.getItem_str (c:=c) (by simp;exact A6 yg hi) ?_ ⟨.str ⟨#[c]⟩,σ,.str _ _,g,.toks _,q⟩;have:seqIndex? (i:Int) a.length=some i:=Zs (Yc i) (Int.ofNat_lt.mpr a0);rw[this];exact hc
inductive Hx(σ:AA):AV→String→String→Prop
 |list {l:AB} {xs:List AV}:σ l=some (.list xs)→Hx σ (.ref l) "list" "list.__getitem__"
 |dictI {l:AB} {es}:σ l=some (.dictI es)→Hx σ (.ref l) "dict" "dict.__getitem__"
 |dictS {l:AB} {es}:σ l=some (.dictS es)→Hx σ (.ref l) "dict" "dict.__getitem__"
 |dictT {l:AB} {es}:σ l=some (.dictT es)→Hx σ (.ref l) "dict" "dict.__getitem__"
 |tup {xs:List AV}:Hx σ (.tup xs) "tuple" "tuple.__getitem__"
 |str {x:Str}:Hx σ (.str x) "str" "str.__getitem__"
theorem Hx.ty{T id:String}(q:Hx σ x T id)(g:G σ s.heap)(r:VR s.heap x v):s.TypeIs v T∧Nz (.type T) "__getitem__"=pure (some (.builtin id)):=by
 cases q with
 |list e=>obtain rfl:=Bi r;refine Cn ((g.own _ _ e).2) fun items n o zz=>?_;exact⟨⟨_,o,rfl⟩,slot_list_getitem.lookup⟩
 |dictI e=>obtain rfl:=Bi r;refine AI ((g.own _ _ e).2) fun kvs hm zz=>?_;exact⟨hm.typeIs,jV.lookup⟩
 |dictS e=>obtain rfl:=Bi r;refine AI ((g.own _ _ e).2) fun kvs hm zz=>?_;exact⟨hm.typeIs,jV.lookup⟩
 |dictT e=>obtain rfl:=Bi r;refine AI ((g.own _ _ e).2) fun kvs hm zz=>?_;exact⟨hm.typeIs,jV.lookup⟩
 |tup=>cases r with|tup e _=>exact⟨⟨_,e,rfl⟩,slot_tuple_getitem.lookup⟩
 |str=>refine AY (VR.inv_str r) fun zz m=>?_;subst m;exact⟨typeIs_str _ _ _,F.slot_str_getitem.lookup⟩
theorem vn(m:Expr)(o i:Value):∃n,subscripted m false o i=operate n (Ip o i):=by
 cases m with
 |Slice a b st p=>cases st<;>exact⟨_,rfl⟩
 |_=>exact⟨_,rfl⟩
theorem Xg{T id:String}(hT:s.TypeIs o T)(hl:Nz (.type T) "__getitem__"=pure (some (.builtin id)))
  (h:AR (Ae pg w) A (Ip o i) Q (fun n n=>False) s):AR (Ae pg w) A (subscriptTail a1 m o i) Q (fun n n=>False) s:=by
 unfold subscriptTail;refine AE ?_;rw[getitemInPython_of_ne hT.not_modules];refine AE (UB hT hl ?_);refine AY (vn m o i) fun a3 hs=>?_;have fin:AR (Ae pg w) A (subscripted m false o i) (fun r a0=>AR (Ae pg w) A (Lw a1 o r>>=fun n=>pure r) Q (fun n n=>False) a0) (fun n n=>False) s:=by
  rw[hs];exact wpAny_operating (AT h (fun r a0 a2=>AE (wpAny_letTemporaryGo (Ad a2))) fun n n x=>x)
 first
  |exact Ad (AE fin)
  |exact AE (Ad (AE fin))
  |exact AE fin
abbrev uH(A:AX)(m:AV)(Φ:AV→AA→Prop):AV→AA→Prop:=fun n σ₂=>(∃T id,Hx σ₂ m T id)∧AM A Ip m n σ₂ Φ
abbrev x9(A:AX)(env:Af)(m:Expr)(ρ:AW)(Φ:AV→AA→Prop):AV→AA→Prop:=fun n σ=>EV A env m ρ σ (uH A n Φ)
theorem CV(k:EV A env a4 ρ σ (x9 A env a5 ρ Φ)):
  EV A env (.Subscript a4 a5 c3) ρ σ Φ:=fun s S=>
 Subscript_ (AT (k s S) (fun o s₁ b6=>BG b6 fun ov c1 b0 a1 a0 b3=>AT (b3 s₁ (S.step a1 a0)) (fun i s₂ b7=>BG b7 fun iv σ₂ b5 n a2 a9=>AL a9 fun a6 a8=>B0 a6 fun T id q=>by
  have m:=b0.mono (a2.evo.tup a1);refine AL (q.ty n m) fun hT hl=>?_;exact Xg hT hl (AT (a8 s₂ o i n m b5) (fun v c2 b1=>BG b1 fun av a3 b4 b2 a7 q=>⟨av,a3,b4,b2,a0.trans (a2.trans a7),q⟩) fun zz zz e=>e)) fun zz zz e=>e) fun zz zz e=>e)
def O0(A:AX)(env:Af)(e:Option Expr)(ρ:AW)(σ:AA)(Φ:Option Int→AA→Prop):Prop:=
 match e with
 |none=>Φ none σ
 |some e=>EV A env e ρ σ fun v m=>∃i,v=.int i∧Φ (some i) m
theorem O0.run(k:O0 A env e ρ σ Φ)(S:St env ρ σ s.heap):AR (Ae pg w) A (evalPart e env) (fun v s'=>∃i σ',IsPart v i∧G σ' s'.heap∧Aq σ s σ' s'∧Φ i σ') (fun zz zz=>False) s:=by
 cases e with
 |none=>rw[Yd];exact Ad ⟨none,σ,.none,S.g,.refl _ _,k⟩
 |some e=>rw[evalPart_some];exact AT (k s S) (fun v s' m=>BG m fun av σ' r g t n=>AI n fun i e1 q=>by subst e1;refine AY r.inv_int fun tk a0=>?_;subst a0;exact⟨some i,σ',.int _ _,g,t,q⟩) fun zz zz e=>e
def Ji(A:AX)(ov:AV)(lo hi:Option Int)(σ:AA)(Φ:AV→AA→Prop):Prop:=
 ∀s u m vl n,G σ s.heap→VR s.heap ov u→s.heap.IsSliceOf m vl n .none→IsPart vl lo→IsPart n hi→Ej A (Ip u (.ref m)) σ s Φ
theorem TS
  (k:EV A env a9 ρ σ fun ov a4=>O0 A env b2 ρ a4 fun lo σ₂=>O0 A env b1 ρ σ₂ fun hi m=>(∃T id,Hx m ov T id)∧Ji A ov lo hi m Φ):
  EV A env (.Subscript a9 (.Slice b2 b1 none p) c9) ρ σ Φ:=fun s S=>
 Subscript_ (AT (k s S) (fun o s₁ b6=>BG b6 fun ov a4 b5 a7 a1 c1=>wpAny_Slice (AT (c1.run (S.step a7 a1)) (fun vl s₂ b7=>B0 b7 fun lo σ₂ c3=>Bv c3 fun pl a6 a2 b3=>AT (b3.run (S.step a6 (a1.trans a2))) (fun vu a0 ⟨hi,m,pu,a8,a5,⟨T,id,q⟩,b4⟩=>by
  rw[Yd];refine Ad ?_;have a3:=((b5.mono (a2.evo.tup a7)).mono (a5.evo.tup a6)).mono (h':=a0.heap.push {cls:=.type "slice",data:=.fields #[vl,vu,.none]}) fun n n n n e n n=>BC _ e;refine AL (q.ty (s:={a0 with heap:=a0.heap.push {cls:=.type "slice",data:=.fields #[vl,vu,.none]}}) (a8.push _) a3) fun hT hl=>?_;exact Xg hT hl (AT (b4 _ o _ vl vu (a8.push _) a3 ⟨_,B2 _ rfl,rfl,rfl⟩ pl pu) (fun v c8 c6=>BG c6 fun av b0 c4 c2 c5 q=>⟨av,b0,c4,c2,a1.trans (a2.trans (a5.trans ((Aq.push _).trans c5))),q⟩) fun n n e=>e)) fun n n e=>e) fun n n e=>e)) fun n n e=>e)
theorem Ji.list{l:AB}{xs ys:List AV}{lo hi:Option Int}{Φ:AV→AA→Prop}(e:σ l=some (.list xs))(hz:xs.length≤1000000)
  (hy:(∃b:Nat,lo=none∧hi=some (b:Int)∧ys=xs.take b)∨(∃a:Nat,lo=some (a:Int)∧hi=none∧ys=xs.drop a))
  (q:∀D,σ D=none→hb.get? D=none→Φ (.ref D) (upd σ D (.list ys))):Ji A (.ref l) lo hi σ Φ:=fun s u sl vl vu g r a0 pl pu=>by
 obtain rfl:=Bi r;refine Cn ((g.own _ _ e).2) fun items n o qs=>?_;have l1:=qs.toArr;refine Zf8 ⟨_,o,rfl,n,rfl⟩ a0 pl pu .none (!(by intro e;injection e)) ⟨.ref _,upd σ s.heap.objs.size (.list ys),.ref _,g.pushOwn _ ⟨_,_,B2 _ rfl,?_⟩,.pushOwn _ _,q _ g.fresh.1 g.fresh.2⟩ (by rw[CJ];exact ln (AK (Ac l1) hz) rfl);rcases hy with⟨b,rfl,rfl,rfl⟩|⟨a,rfl,rfl,rfl⟩
 ·rw[slicePick_upto'];exact(qs.mono fun m m m m e m m=>BC _ e).take
 ·rw[slicePick_from'];exact(qs.mono fun m m m m e m m=>BC _ e).drop
theorem Ji.tup{xs:List AV}{a:Nat}(h1:1≤a)(ha:a≤xs.length)(hz:xs.length≤1000000)(q:Φ (.tup (xs.drop a)) σ):Ji A (.tup xs) (some (a:Int)) none σ Φ:=fun s u sl vl vu g r a0 pl pu=>by
 cases pu;cases pl with
 |int _ tk=>
  cases r with
  |@tup t _ items n e qs=>
   have l1:=qs.toArr;exact getItem_tuple_from (ht:=⟨_,e,rfl,n,rfl⟩) a0 h1 (!AK ha (Ac l1.symm)) ⟨.tup (xs.drop a),σ,.tup (B2 _ rfl) ((qs.drop (n:=a)).mono fun m m m m e m m=>BC _ e),g.push _,.push _,q⟩ (by rw[CJ];exact ln (AK (Ac l1) hz) rfl)
theorem wn{k:Int}(o:s.heap.get? l=some {cls:=.type "list",data:=.seq items n})
  (h0:0≤k)(m:k<2 ^ 63)(hn:k<items.size)(hQ:Q Unit.unit {s with heap:=s.heap.update l (Dd (·.setIfInBounds k.toNat v))}):
  AR (Ae pg w) A (setItem (.ref l) (.int k t) v) Q E s:=by
 have hl:s.heap.IsList l items:=⟨_,o,rfl,n,rfl⟩;unfold setItem
 try with_reducible refine CI ?_
 first|refine AE (Ad ?_)|skip
 refine AE (wpAny_sequenceKey hl.typeIs ⋯ ?_);refine AE (jW (name:=QU "__setitem__") hl.typeIs slot_list_setitem
  (HT slot_list_setitem hl.typeIs entry_list_setitem ?_ (args_list_setitem _ _ _)))
 show AR _ _ (jX (.int k t)>>=_) _ _ s;refine AE (wpAny_listSubscript_int (fitsIndex_of h0 m) ?_);clear m;obtain⟨j,rfl⟩:=Int.eq_ofNat_of_zero_le h0;have hj:j<items.size:=by exact Al xX hn
 have a0:items[j]? =some items[j]:=Ki hj;show AR _ _ ((seqItemAt l j>>=fun r=>pure (r.map (j,·)))>>=_) _ _ s;refine AE (AE (wpAny_seqItemAt o rfl (Ad ?_)));rw[a0];show AR _ _ (setSeqItemAt l j v>>=_) _ _ s;refine AE (wpAny_setSeqItemAt o rfl ?_)
 first
  |exact AE (Ad (Ad ⟨.none,rfl,Ad hQ⟩))
  |exact Ad ⟨.none,rfl,Ad hQ⟩
theorem setL(e:σ l=some (.list xs))(hi:i<xs.length)(hz:xs.length≤1000000)(q:Φ (upd σ l (.list (xs.set i x)))):Qk A (.ref l) (.int i) x σ Φ:=fun s u v t g r1 r2 r3=>by
 obtain rfl:=Bi r1;refine AY (VR.inv_int r2) fun zz m=>?_;subst m;refine Cn ((g.own _ _ e).2) fun items n o qs=>?_;have l1:=qs.toArr;refine wn o (!A6 o0) (Q1 (AK (QQ hi) hz)) (!BS po hi l1) ?_;have hs:FH l s.heap (s.heap.update l (Dd (·.setIfInBounds i t))):=Eo ..;exact⟨_,g.set (y:=.list (xs.set i x)) e hs fun tk=>⟨items.setIfInBounds i t,_,GY _ o rfl,by rw[Array.toList_setIfInBounds];exact(qs.mono tk).set (r3.mono tk)⟩,.set e hs rfl rfl,q⟩
theorem KZ{o i:Expr}{b5:A3}{x:AV}{Φ:AW→AA→Prop}(k:EV A env o ρ σ fun ov a2=>EV A env i ρ a2 fun iv σ₂=>Qk A ov iv x σ₂ (fun m=>Φ ρ m)):
  AQ A env (Fs (.Subscript o i b5) env) x ρ σ Φ:=fun s v S r=>by
 rw[assign_Subscript];refine AE (CI (AT (k s S) (fun ov s₁ a6=>BG a6 fun oa a2 a8 a1 a0 b1=>?_) fun zz zz e=>e));have a5:=S.step a1 a0;refine AE (CI (AT (b1 s₁ a5) (fun iv s₂ a9=>BG a9 fun ia σ₂ b3 a4 n a7=>?_) fun zz zz e=>e));have b2:=a5.step a4 n;refine AE (EQ (AE (CI (AT (a7 s₂ ov iv v a4 (a8.mono (n.evo.tup a1)) b3 ((r.mono (a0.evo.tup S.g)).mono (n.evo.tup a1))) (fun _ b6 b4=>TJ b4 fun m b0 a3 q=>?_) fun zz zz e=>e))));exact fun Γ p zz=>by rw[Sem.wp_release];exact⟨ρ,m,b2.step b0 a3,(a0.trans (n.trans a3)).toF,q⟩
theorem eh(q:Q Unit.unit s):AR (Ae pg w) A (Ls vs ks) Q E s:=fun m p n=>by rw[Sem.wp_release];exact q
theorem ib(k:EV A env o ρ σ fun ov a0=>EV A env i ρ a0 fun iv σ₂=>VZ A Nw ov iv σ₂ (fun m=>Φ .next ρ m)):
  Em A env (.Delete [.Subscript o i p] b6) ρ σ Φ:=fun s S=>by
 refine wpAny_Delete (wpAny_deleteEach_cons ?_);rw[show delete (.Subscript o i p) env=(do
  let ov ←A0 o env;let iv ←CW [ov] (A0 i env)
  Cp p
  CW [ov,iv] (Nw ov iv)
  Ls [ov,iv] [])from rfl]
 refine AE (AT (k s S) (fun ov s₁ a7=>BG a7 fun oa a0 a8 a4 a3 b1=>?_) fun zz zz e=>e);have a5:=S.step a4 a3;refine AE (CI (AT (b1 s₁ a5) (fun iv s₂ a9=>BG a9 fun ia σ₂ b3 a2 n a6=>?_) fun zz zz e=>e));have b2:=a5.step a2 n;refine AE (EQ (AE (CI (AT (a6 s₂ ov iv a2 (a8.mono (n.evo.tup a4)) b3) (fun _ b5 b4=>TJ b4 fun m b0 a1 q=>?_) fun zz zz e=>e))));exact eh (wpAny_deleteEach_nil ⟨.next,ρ,m,trivial,b2.step b0 a1,(a3.trans (n.trans a1)).toF,q⟩)
def LZ(a n:Int)(st:Int)(i:Nat):Bool:=
 if st>0 then a≤i&&i<n&&(i-a)%st==0
 else n<i&&i≤a&&(a-i)%(-st)==0
theorem kZ(a:Nat):∀(xs:List Value)(k:Nat)(n:Nat),k+xs.length≤n→
  ((xs.zipIdx k).filterMap fun(x,i)=>if LZ a n 1 i then none else some x)=xs.take (a-k):=by
 intro xs
 induction xs with
 |nil=>
  intro k n _;simp
 |cons x xs m=>
  intro k n h;rw[List.zipIdx_cons,N1];have ih:=m (k+1) n (by rw[UC]at h;exact BS o91 h);rw[UC]at h;by_cases c:k<a
  ·have:LZ a n 1 k=false:=by
    unfold LZ;simp;intro;exact BS qI (by assumption) (by assumption)
   simp only[this];rw[if_neg Gx];simp only[ih];rw[show a-k=(a-(k+1))+1 by exact lD c,List.take_succ_cons]
  ·have:LZ a n 1 k=true:=by
    unfold LZ;simp;exact Cf zH h (by assumption)
   simp only[this,if_true];rw[ih,show a-(k+1)=0 by exact we c,show a-k=0 by exact vB c];simp
def Vs(s:AN)(A:AX)(l:AB)(items:Array Value)(sl:AB)(tk:Tok)(Q:Unit→AN→Prop)(E:Value→AN→Prop)(n:Nat)(a:Nat):Prop:=∀(o:s.heap.get? l=some {cls:=.type "list",data:=.seq items n})(a0:s.heap.IsSliceOf sl (.int a tk) .none .none)(hz:items.size≤Nu)(ha:a≤items.size)(hQ:∀h',FH l s.heap h'→(∃m,h'.get? l=some {cls:=.type "list",data:=.seq (items.toList.take a).toArray m})→Q Unit.unit {s with heap:=h'}),AR (Ae pg w) A (Nw (.ref l) (.ref sl)) Q E s
def da:(((AN×AX)×AB)×(Array Value×AB))×(((Tok×(Unit→AN→Prop))×(Value→AN→Prop))×(Nat×Nat))→Prop:=fun t=>Vs t.1.1.1.1 t.1.1.1.2 t.1.1.2 t.1.2.1 t.1.2.2 t.2.1.1.1 t.2.1.1.2 t.2.1.2 t.2.2.1 t.2.2.2
def H8:=zE da (((({},{}),0),(#[],0)),(((BV,(fun _ _=>True)),(fun _ _=>True)),(0,0)))
def M2:=H8.1.1.1.1
def nV:=H8.1.1.1.2
def RZ:=H8.1.1.2
def FM:=H8.1.2.1
def SH:=H8.1.2.2
def cI:=H8.2.1.1.1
def Zc6:=H8.2.1.1.2
def Zbm:=H8.2.1.2
def Rw:=H8.2.2.1
def FK:=H8.2.2.2
theorem tO:Vs M2 nV RZ FM SH cI Zc6 Zbm Rw FK:=fun o a4 hz ha hQ=>by
 have hl:M2.heap.IsList RZ FM:=⟨_,o,rfl,Rw,rfl⟩;refine B3 (id a4) fun os a0 a3 a1=>?_;have a2:M2.TypeIs (.ref SH) "slice":=⟨os,a0,a3⟩;refine jN hl.typeIs ⋯ F.slot_list_delitem (HT F.slot_list_delitem hl.typeIs F.entry_list_delitem ?_ (F.args_list_delitem_2 _ _));show AR _ _ (jX (.ref SH)>>=_) _ _ M2;refine AE ?_;unfold jX;refine AE (UB a2 slice_no_index ?_);simp -iota only[Option.isNone_none,if_true];refine Ad ?_;show AR _ _ (No (.ref SH)>>=_) _ _ M2;refine AE (Ye a2 ?_);rw[if_neg ⋯];rw[listSliceParts_eq];refine AE (AE (Kj a0 a1 (x:=.none) rfl (AE (jY .none ?_))));rw[if_neg ⋯];refine AE (Kj a0 a1 (x:=.int FK cI) rfl (AE (jY (.int _ _) ?_)));refine AE (Kj a0 a1 (x:=.none) rfl (AE (jY .none (Ad ?_))));refine AE (m:=Zf9 (.ref RZ)) ?_;unfold Zf9;refine AE (jZ o rfl (Ad ?_));refine AE (Lx (sliceIndices_raw (some (FK:Int)) none none FM.size (!(by intro e;injection e))) ?_);have eb:sliceBounds (some (FK:Int)) none none FM.size=((FK:Int),(FM.size:Int),1):=by
  have e:max 0 (min (if(FK:Int)<0 then(FK:Int)+FM.size else FK) FM.size)=(FK:Int):=by rw[if_neg (jD.mpr (Yc FK)),Int.min_eq_left (iw.mpr ha),Int.max_eq_right (Yc FK)]
  exact congrArg (fun z=>(z,(FM.size:Int),(1:Int))) e
 rw[eb];refine AE (MB (AE ?_));show AR _ _ (updateSeq RZ (fun xs=>(xs.toList.zipIdx.filterMap fun(x,k)=>if LZ (FK:Int) (FM.size:Int) 1 k then none else some x).toArray)) _ _ M2;have n:(FM.toList.zipIdx.filterMap fun(x,k)=>if LZ (FK:Int) (FM.size:Int) 1 k then none else some x)=FM.toList.take FK:=by
  have:=kZ FK FM.toList 0 FM.size (by simp);simpa using this
 refine ja o rfl ?_ hz (by rw[n];simp;exact yK hz);refine AE (wpAny_letGo (Ad ⟨.none,rfl,?_⟩));refine hQ _ (Eo ..) ⟨if(FM.toList.take FK).toArray.size==FM.size then Rw else Rw+1,(GY _ o rfl).trans ?_⟩;rw[←n];rfl
theorem rj{s A l items m tk Q E n a}:Vs s A l items m tk Q E n a:=@zF _ da _ @tO ((((s,A),l),(items,m)),(((tk,Q),E),(n,a)))
theorem vH{l:AB}{xs:List AV}{a:Nat}{Φ:AA→Prop}(e:σ l=some (.list xs))(ha:a≤xs.length)(hz:xs.length≤1000000)(q:Φ (upd σ l (.list (xs.take a)))){s:AN}{sl:AB}{tk:Tok}(g:G σ s.heap)(a1:s.heap.IsSliceOf sl (.int a tk) .none .none):
  SZ A (Nw (.ref l) (.ref sl)) σ s Φ:=by
 refine Cn ((g.own _ _ e).2) fun items n o qs=>?_;have l1:=qs.toArr;exact rj o a1 (by rw[CJ];exact ln (AK (Ac l1) hz) rfl) (!AK ha (Ac l1.symm)) fun h' hs a0=>AY a0 fun m o'=>⟨_,g.set (y:=.list (xs.take a)) e hs fun tk=>⟨_,_,o',(qs.mono tk).take⟩,.set e hs rfl rfl,q⟩
theorem Xx(k:EV A env o ρ σ fun ov a0=>EV A env m ρ a0 fun iv σ₂=>∃(l:AB)(xs:List AV)(a:Nat),ov=.ref l∧iv=.int a∧σ₂ l=some (.list xs)∧a≤xs.length∧xs.length≤1000000∧Φ .next ρ (upd σ₂ l (.list (xs.take a)))):
  Em A env (.Delete [.Subscript o (.Slice (some m) none none p0) p] c2) ρ σ Φ:=fun s S=>by
 refine wpAny_Delete (wpAny_deleteEach_cons ?_);rw[show delete (.Subscript o (.Slice (some m) none none p0) p) env=(do
  let ov ←A0 o env;let iv ←CW [ov] (A0 (.Slice (some m) none none p0) env)
  Cp p
  CW [ov,iv] (Nw ov iv)
  Ls [ov,iv] [])from rfl]
 refine AE (AT (k s S) (fun ov s₁ a7=>BG a7 fun oa a0 a8 a9 a2 b1=>?_) fun zz zz e=>e);have n:=S.step a9 a2;refine AE (CI (wpAny_Slice ?_));rw[evalPart_some];refine AT (b1 s₁ n) (fun iv s₂ b4=>BG b4 fun ia σ₂ b3 a1 a3 b6=>OP b6 fun l xs a e1 e2 e3 ha hz q=>?_) fun zz zz e=>e;subst e1 e2;obtain rfl:=Bi a8;refine AY b3.inv_int fun tk b2=>?_;subst b2;rw[Yd];refine Ad (Ad ?_);have c1:=n.step a1 a3;have b0:=a1.push {cls:=.type "slice",data:=.fields #[.int (a:Int) tk,.none,.none]};refine AE (EQ (AE (CI (AT (vH (Φ:=fun σ'=>Φ .next ρ σ') e3 ha hz q (s:={s₂ with heap:=s₂.heap.push {cls:=.type "slice",data:=.fields #[.int (a:Int) tk,.none,.none]}}) b0 ⟨_,B2 _ rfl,rfl,rfl⟩) (fun _ b7 b5=>TJ b5 fun a4 a5 a6 q=>?_) fun zz zz e=>e))))
 have T:=a3.trans ((Aq.push _).trans a6);exact eh (wpAny_deleteEach_nil ⟨.next,ρ,a4,trivial,n.step a5 T,(a2.trans T).toF,q⟩)
abbrev BH(is:List Int):List AV:=is.map .int
theorem Wv{is:List Int}{vs:List Value}(r:VRs h (BH is) vs):Jp vs is:=VRs.ind (P:=fun xs vs=>∀is,xs=BH is→Jp vs is) (fun is e=>by cases is with|nil=>exact .nil|cons i is=>cases e) (fun{x v xs vs} a b n is e=>by
 cases is with
 |nil=>cases e
 |cons i is=>
  have e:=jO e;have a:=e.1▸a;refine AY a.inv_int fun t m=>?_;subst m;exact .cons i t (n _ e.2)) r is rfl
theorem gL:∀{is:List Int}{vs:List Value},Jp vs is→VRs h (BH is) vs
 :=fun q=>by induction q with|nil=>exact .nil|cons n t _ m=>exact .cons (.int n t) m
theorem W9{is:List Int}{vs:List Value}(r:VRs h (BH is) vs):∃ps:List (Int×Tok),vs=ps.map (fun p=>.int p.1 p.2)∧ps.map (·.1)=is:=by
 have q:=Wv r;clear r
 induction q with
 |nil=>exact⟨[],rfl,rfl⟩
 |cons i t a m=>exact AI m fun ps e1 n=>⟨(i,t)::ps,by rw[e1];rfl,by rw[CF,n]⟩
theorem ae{h:A5}{vs:List Value}{out:Array Value}:(∀b o,h.get? b=some o→(sortedAll h vs out).get? b=some o)∧∃n,(sortedAll h vs out).get? (h.objs.size+1)=some {cls:=.type "list",data:=.seq out n}:=by
 unfold sortedAll UD;have m:((h.push (Bq "list" #[] 0)).update h.objs.size (Dd (· ++vs.toArray))).objs.size=h.objs.size+1:=by rw[QV,Yg]
 constructor
 ·intro b o e;have hb:=DP e;rw[HV _ _ (HW (H5 hb))];refine BC _ (BC _ ?_);rw[HV _ _ (HW (H5 hb))];refine BC _ ?_;rw[HV _ _ (HW hb)];exact BC _ e
 ·have e1:(((h.push (Bq "list" #[] 0)).update h.objs.size (Dd (· ++vs.toArray))).push (Bq "list" vs.toArray 0)).get? (h.objs.size+1)=some (Bq "list" vs.toArray 0):=by
   rw[←m];exact B2 _ rfl
  obtain⟨n1,e2⟩:∃n1,((((h.push (Bq "list" #[] 0)).update h.objs.size (Dd (· ++vs.toArray))).push (Bq "list" vs.toArray 0)).update (h.objs.size+1) (Dd fun zz=>#[])).get? (h.objs.size+1)=some (Bq "list" #[] n1):=⟨_,UE e1 (fun zz=>#[])⟩;have e3:=BC (Bq "list" #[] 0) (BC (Bq "tuple" vs.toArray 0) e2);exact⟨_,UE e3 (fun zz=>out)⟩
theorem Ze5:∀{xs:List AV}{vs:List Value},xs.length=vs.length→(∀(i:Nat) x v,xs[i]? =some x→vs[i]? =some v→VR h x v)→VRs h xs vs:=fun{xs}=>by
 induction xs with
 |nil=>intro vs e k;cases vs with|nil=>exact .nil|cons v vs=>cases e
 |cons x xs n=>intro vs e k;cases vs with|nil=>cases e|cons v vs=>exact .cons (k 0 x v rfl rfl) (n (YD e) fun i y u h1 m=>k (i+1) y u h1 m)
theorem f7(g:G σ h)(n:h.get? D=none):σ D=none∧hb.get? D=none:=by
 constructor
 ·cases q:σ D with
  |none=>rfl
  |some z=>refine AI ((g.own _ z q).2.there) fun m e zz=>?_;exact As ((n.symm.trans e))
 ·cases q:hb.get? D with
  |none=>rfl
  |some o=>exact Bh (((g.base _ _ q).symm.trans n))
theorem TX{Φ:AV→AA→Prop}{D:AB}{h':A5}{tk:Tok}{items:Array Value}{n:Nat}{xs:List AV}(g:G σ s.heap)(k:∀b o,s.heap.get? b=some o→h'.get? b=some o)(m:s.heap.get? D=none)
  (e:h'.get? D=some {cls:=.type "list",data:=.seq items n})(r:VRs h' xs items.toList)(q:∀D,σ D=none→hb.get? D=none→Φ (.ref D) (upd σ D (.list xs))):
  PV σ s Φ (.ref D) {s with heap:=h',toks:=tk}:=by
 refine AL (f7 g m) fun n1 n2=>?_;exact⟨.ref D,upd σ D (.list xs),.ref _,(g.keeps k).adopt n2 ⟨items,n,e,r⟩,(Aq.keeps (s':={s with heap:=h',toks:=tk}) k rfl rfl).adopt (fun zz=>m),q D n1 n2⟩
theorem TL{l:AB}{is:List Int}{Φ:AV→AA→Prop}(e:σ l=some (.list (BH is)))(a1:is.length<64)
  (q:∀js,js.Perm is→js.Pairwise (· ≤·)→∀D,σ D=none→hb.get? D=none→Φ (.ref D) (upd σ D (.list (BH js)))):AF A (.builtin "sorted") [.ref l] σ Φ:=fun s vs g r=>by
 cases r with
 |cons r1 r2=>
  obtain rfl:=Bi r1;cases r2;refine Cn ((g.own _ _ e).2) fun items n o qs=>?_;have hI:=Wv qs;have a0:items.toList.length=is.length:=by rw[←qs.length,AU]
  refine sorted_ints (vs:=items.toList) ⟨_,o,rfl,n,by simp⟩ hI (!AK (CG (Ac a0)) a1) fun out js hO hp hs=>?_;refine GG (ae (h:=s.heap) (vs:=items.toList) (out:=out)) fun k m eo=>?_;exact TX g k (Im (G1 _)) eo (gL hO) (q js hp hs)
theorem KY(e:σ l=some (.list xs))(hl:xs.length≤100000)
  (q:∀D,σ D=none→hb.get? D=none→Φ (.ref D) (upd σ D (.list xs))):AF A (.type "list") [.ref l] σ Φ:=fun s vs g r=>by
 cases r with
 |cons r1 r2=>
  obtain rfl:=Bi r1;cases r2;refine Cn ((g.own _ _ e).2) fun items n o qs=>?_;have l1:=qs.toArr;refine call_list_seq l (.inl rfl) o rfl rfl (fun h' c' k eo=>?_) (by rw[CJ];exact ln (AK (Ac l1) hl) rfl);exact TX (tk:=s.toks) g k (GM _) eo (qs.mono fun m m m m e m m=>k _ _ e) q
theorem Lj(e:σ l=some (.list xs))(hl:xs.length≤100000)(q:Φ (.tup xs) σ):AF A (.type "tuple") [.ref l] σ Φ:=fun s vs g r=>by
 cases r with
 |cons r1 r2=>
  obtain rfl:=Bi r1;cases r2;refine Cn ((g.own _ _ e).2) fun items n o qs=>?_;have l1:=qs.toArr;refine call_tuple_list ⟨_,o,rfl,n,rfl⟩ (fun h' k=>?_) (by rw[CJ];exact ln (AK (Ac l1) hl) rfl);have k':∀b o,s.heap.get? b=some o→(h'.push {cls:=.type "tuple",data:=.seq items}).get? b=some o:=fun b o e=>BC _ (k b o e);exact⟨.tup xs,σ,.tup (B2 _ rfl) (qs.mono fun m m m m e m m=>k' _ _ e),g.keeps k',.keeps k' rfl rfl,q⟩
theorem iq(q:Φ (.tup xs) σ):AF A (.type "tuple") [.tup xs] σ Φ:=fun s vs g r=>by
 cases r with
 |cons r1 r2=>
  cases r2;cases r1 with
  |@tup a _ items n e m=>exact call_tuple_same ⟨_,e,rfl,n,rfl⟩ ⟨.tup xs,σ,.tup e m,g,.refl _ _,q⟩
theorem Zdh{l:AB}{is:List Int}{Φ:AV→AA→Prop}(hh:A.handled=none)(e:σ l=some (.list (BH is)))(q:∀i,Φ (.int i) σ):AF A (.builtin "sum") [.ref l] σ Φ:=fun s vs g r=>by
 cases r with
 |cons m r2=>
  obtain rfl:=Bi m;cases r2;refine Cn ((g.own _ _ e).2) fun items n o qs=>?_;refine AI (W9 qs) fun ps e1 e2=>?_;have hi:items=QW ps.toArray:=by
   unfold QW;apply jb.mp;rw[e1];simp
  refine sum_intListG (xs:=ps.toArray) hh ⟨_,o,rfl,n,by rw[←hi]⟩ fun h' tk t' k=>?_;exact⟨.int _,σ,.int _ _,g.keeps k,.keeps k rfl rfl,q _⟩
theorem oF(ps:List (Int×Tok)):∀n,n≤ps.length→preSum (numAt ps.toArray) n=((ps.map (·.1)).take n).sum:=by
 intro n
 induction n with
 |zero=>intro _;rfl
 |succ n ih=>
  intro hn;have:preSum (numAt ps.toArray) (n+1)=preSum (numAt ps.toArray) n+numAt ps.toArray n:=rfl;rw[this,ih (!Cy hn),G4,List.sum_append];congr 1;unfold numAt;have m:n<ps.length:=by exact hn
  simp[m]
theorem Zcy(hh:A.handled=none)(e:σ l=some (.list (BH is)))(q:Φ (.int is.sum) σ):AF A (.builtin "sum") [.ref l] σ Φ:=fun s vs g r=>by
 cases r with
 |cons r1 r2=>
  obtain rfl:=Bi r1;cases r2;refine Cn ((g.own _ _ e).2) fun items n o qs=>?_;refine AI (W9 qs) fun ps e1 m=>?_;have hi:items=QW ps.toArray:=by
   unfold QW;apply jb.mp;rw[e1];simp
  refine sum_intListG (xs:=ps.toArray) hh ⟨_,o,rfl,n,by rw[←hi]⟩ fun h' tk t' k=>?_;refine⟨.int is.sum,σ,?_,g.keeps k,.keeps k rfl rfl,q⟩;have:preSum (numAt ps.toArray) ps.toArray.size=is.sum:=by
   rw[show ps.toArray.size=ps.length by exact rfl,oF ps _ (A9 _),m,Io (by rw[←m];simp)]
  rw[this];exact .int _ _
theorem Zdp{l:AB}{is:List Int}{Φ:AV→AA→Prop}(hh:A.handled=none)(e:σ l=some (.list (BH is)))(a0:is≠[])(q:∀i,Φ (.int i) σ):AF A (.builtin "max") [.ref l] σ Φ:=fun s vs g r=>by
 cases r with
 |cons r1 r2=>
  obtain rfl:=Bi r1;cases r2;refine Cn ((g.own _ _ e).2) fun items n o qs=>?_;refine AI (W9 qs) fun ps e1 e2=>?_;have hi:items=QW ps.toArray:=by
   unfold QW;apply jb.mp;rw[e1];simp
  refine max_intList (xs:=ps.toArray) hh ⟨_,o,rfl,n,by rw[←hi]⟩ (by
   cases ps with
   |nil=>exact absurd e2.symm a0
   |cons p r=>exact Cz _) fun v h' tk hv k=>?_
  refine AY (intItems_at hv) fun t m=>?_;subst m;exact⟨.int _,σ,.int _ _,g.keeps k,.keeps k rfl rfl,q _⟩
theorem ic(hh:A.handled=none)(q:Φ (.int (if b>a then b else a)) σ):AF A (.builtin "max") [.int a,.int b] σ Φ:=fun s vs g r=>by
 cases r with
 |cons r1 m=>
  cases m with
  |cons m n=>
   cases n;obtain⟨_,rfl⟩:=VR.inv_int r1;obtain⟨_,rfl⟩:=VR.inv_int m;refine max_two_ints hh fun h' tk k=>⟨.int (if b>a then b else a),σ,?_,g.keeps k,.keeps k rfl rfl,q⟩;split<;>exact .int _ _
set_option tactic.hygienic true in
theorem Zel(q:Φ (.int (if a<0 then -a else a)) σ):AF A (.builtin "abs") [.int a] σ Φ:=fun s vs g r=>by
 cases r with
 |cons n r2=>
  cases r2;refine AY (VR.inv_int n) fun zz m=>?_;subst m;exact call_abs_int fun u tk=>⟨.int _,σ,.int _ _,g,.toks _,q⟩
set_option tactic.hygienic true in
theorem Zen(hh:A.handled=none)
  (k:EV A env (.Name f1 p1) ρ σ fun fv a4=>fv=.fix (.type "list")∧EV A env (.Name f2 p2) ρ a4 fun fv a1=>fv=.fix (.type "range")∧AC A env q2 [x] ρ a1 fun xs σ₂=>∃n:Nat,xs=[.int n]∧n<1000000∧
   ∀D,σ₂ D=none→hb.get? D=none→Φ (.ref D) (upd σ₂ D (.list (BH ((B6 n).map fun(i:Nat)=>(i:Int))))))
  (hp:autoParam (CO [x]=true) aR)(he:autoParam (∀env,Bb [.Call (.Name f2 p2) [x] [] q2] env=[(false,A0 (.Call (.Name f2 p2) [x] [] q2) env)]) aI):
  EV A env (.Call (.Name f1 p1) [.Call (.Name f2 p2) [x] [] q2] [] q1) ρ σ Φ:=fun s S=>
 Ts (AT (k s S) (fun u s₁ a5=>BG a5 fun fv a1 r g t a5=>AL a5 fun e1 b2=>by
  subst e1;obtain rfl:=TU r;have c2:=S.step g t;have b6:CO [Expr.Call (.Name f2 p2) [x] [] q2]=true:=rfl;refine i9 (E7 b6) (Gg (E7 b6) ?_);refine Tn (e:=.Call (.Name f2 p2) [x] [] q2) (rest:=[]) (PO c2 (b2.mono fun fv σ₂ c3=>AL c3 fun e2 b7=>⟨_,e2,fun s₂ b4=>AT (b7 s₂ b4) (fun vs c6 a6=>GV a6 fun xs a0 a9 b1 a7 a6=>B3 a6 fun n e3 hn q=>⟨xs,a0,a9,b1,a7,fun m vs b3 a8 b0=>?_⟩) fun _ _ e=>e⟩) hp) (he _);subst e3;cases a8 with
  |cons r r'=>
   cases r';obtain⟨_,rfl⟩:=VR.inv_int r;rename_i a2;refine call_range_1 (Tm ?_);have sm:=dT (a:=0) (b:=n) (!ZA) (!Qq hn);have hr:IsRange (m.heap.push {cls:=.type "range",data:=.fields #[.int 0 m.toks,.int (n:Int) a2,.int 1 (m.toks+1)]}) m.heap.objs.size 0 n 1 _ _ _:=B2 _ rfl;refine call_list_range hh hr sm.1 (n:=n) (by rw[sm.2];exact sj) (!ln (Cy hn) rfl) fun h' tk c5 c k eo a3=>?_;have T:=(t.trans b0).trans ((Aq.push (σ:=a0) {cls:=.type "range",data:=.fields #[.int 0 m.toks,.int (n:Int) a2,.int 1 (m.toks+1)]}).trans (.toks (m.toks+1+1)));have gg:=b3.push {cls:=.type "range",data:=.fields #[.int 0 m.toks,.int (n:Int) a2,.int 1 (m.toks+1)]};have hv:VRs h' (BH ((B6 n).map fun(i:Nat)=>(i:Int))) c5.toList:=by
    refine Ze5 (by simp[a3.1]) fun i y v h1 h2=>?_;unfold BH at h1;rw[Bx,CK]at h1;refine AI (QH.mp h1) fun j hj c1=>?_;subst c1;have c4:j=i:=by
     refine AY (BY.mp hj) fun hi e=>?_;rw[List.getElem_range]at e;exact e.symm
    refine AY (a3.2 i v (by rw[←Dx];exact h2)) fun c8 b5=>?_;subst b5;rw[c4];have:(0:Int)+(i:Int)*1=(i:Int):=by exact xz
    rw[this];exact .int _ _
   refine BG (TX (s:={m with heap:=m.heap.push {cls:=.type "range",data:=.fields #[.int 0 m.toks,.int (n:Int) a2,.int 1 (m.toks+1)]},toks:=m.toks+1+1}) (tk:=tk) gg k (GM _) eo hv q) fun av σ' r1 r2 r3 r4=>?_;exact⟨av,σ',r1,r2,T.trans r3,r4⟩) fun _ _ e=>e)
mutual
inductive DA(σ:AA):AV→MC→Prop
 |int (i:Int):DA σ (.int i) (.int i)
 |str (x:Str):DA σ (.str x) (.str x)
 |tup {xs:List AV} {ds:List MC}:DAs σ xs ds→DA σ (.tup xs) (.tuple ds)
 |list {l:AB} {xs:List AV} {ds:List MC}:σ l=some (.list xs)→DAs σ xs ds→DA σ (.ref l) (.list ds)
inductive DAs(σ:AA):List AV→List MC→Prop
 |nil:DAs σ [] []
 |cons {x:AV} {d:MC} {xs:List AV} {ds:List MC}:DA σ x d→DAs σ xs ds→DAs σ (x::xs) (d::ds)
end
theorem DA.reads(g:G σ h)(D:DA σ x d):VR h x v→∃m,Reads h v d m:=
 @DA.rec σ (fun x d zz=>∀{v},VR h x v→∃m,Reads h v d m) (fun xs ds zz=>∀{vs},VRs h xs vs→∃m,ReadsAll h vs ds m)
  (fun i v r=>AY (VR.inv_int r) fun zz e=>e▸⟨_,.int _ _⟩) (fun i v r=>AY (VR.inv_str r) fun zz e=>e▸⟨_,.str _ _⟩)
  (fun zz ih v r=>by cases r with|tup e rs=>exact(ih rs).elim fun m ra=>⟨_,.tuple e rfl rfl ra⟩)
  (fun e zz ih v r=>by
   obtain rfl:=Bi r;exact Cn ((g.own _ _ e).2) fun items n o rs=>(ih rs).elim fun m ra=>⟨_,.list o rfl rfl ra⟩)
  (fun r=>by cases r;exact⟨_,.nil⟩)
  (fun zz zz h1 h2 vs r=>by cases r with|cons r1 r2=>exact(h1 r1).elim fun m ra=>(h2 r2).elim fun bs rb=>⟨_,.cons ra rb⟩) x d D v
theorem iT{x y:AV}{d e:MC}{Φ:AV→AA→Prop}(R:Ah A 4)(a:DA σ x d)(b:DA σ y e)(hd:Iq d=true)(he:Iq e=true)(q:Φ (.bool (HX d e)) σ):AM A (EC .Eq) x y σ Φ:=fun s u v g m r2=>by
 refine AY (a.reads g m) fun as ra=>?_;refine AY (b.reads g r2) fun bs n=>?_;exact eq_dataH ra n hd he (by have:=R.units;exact this) ⟨_,σ,.bool _,g,.refl _ _,q⟩
theorem Xn{x y:AV}{d e:MC}{Φ:AV→AA→Prop}(R:Ah A 4)(a:DA σ x d)(b:DA σ y e)(hd:Iq d=true)(he:Iq e=true)(q:Φ (.bool (not (HX d e))) σ):AM A (EC .NotEq) x y σ Φ:=fun s u v g m r2=>by
 refine AY (a.reads g m) fun as ra=>?_;refine AY (b.reads g r2) fun bs n=>?_;exact ne_dataH ra n hd he (by have:=R.units;exact this) ⟨_,σ,.bool _,g,.refl _ _,q⟩
theorem Zct(R:Ah A 5)(a:DA σ x d)(b:DA σ y (.list ds))(hd:Iq d=true)(m:Iq (.list ds)=true)(q:Φ (.bool (ds.any fun y=>HX y d)) σ):AM A (EC .In) x y σ Φ:=fun s u v g n r2=>by
 refine AY (a.reads g n) fun as ra=>?_;refine AY (b.reads g r2) fun bs rb=>?_;unfold Iq at hd m;rw[Fq,decide_eq_true_eq]at hd m;have h2:=Nat.min_le_right (jc ds) d.depth;exact SeqAt.in_list_reads rb ra (by simpa[jd]using m.1) hd.1 (by have:=R.units;refine Yh ?_ this;rw[Nat.add_assoc];exact Nat.add_le_add_left (AK (Nat.add_le_add_left (AK (Nat.min_le_right _ _) hd.2) 1) ⋯) _) ⟨_,σ,.bool _,g,.refl _ _,q⟩
theorem iM(k:EV A env a1 ρ σ fun v m=>∃b,v=.bool b∧if b then EV A env a0 ρ m Φ else Φ (.bool false) m):EV A env (.BoolOp .And [a1,a0] a5) ρ σ Φ:=fun s S=>
 BoolOp_and (AT (k s S) (fun v s₁ n=>BG n fun av m r g t n=>AI n fun b e1 q=>by
  subst e1;obtain rfl:=QC r;refine QJ ?_;cases b with
  |false=>exact⟨_,m,.bool _,g,t,q⟩
  |true=>exact BoolOp_one (AT (q s₁ (S.step g t)) (fun v s₂ a4=>BG a4 fun av σ₂ r a2 a3 q=>⟨av,σ₂,r,a2,t.trans a3,q⟩) fun zz zz e=>e)) fun zz zz e=>e)
theorem iE(B:Aj)(g:G σ h):h.objs.size≠1:=fun e=>by
 have:∃o,(KK w).lookup 567=some o:=⟨_,rfl⟩;refine AY this fun o m=>?_;have:=DP (g.base _ _ (B.K _ _ m));rw[e]at this;exact absurd this ⋯
theorem TN(B:Aj)(m:∀h a,h.get? a=some {cls:=.type "dict",data:=.dict #[]}→Ee w h a x)(q:∀a,σ a=none→hb.get? a=none→a≠1→Φ (.ref a) (upd σ a x)):
  EV A env (.Dict [] [] n) ρ σ Φ:=fun s S=>by
 refine wpAny_Dict_empty ⟨.ref _,upd σ s.heap.objs.size x,.ref _,S.g.pushOwn _ (m _ _ (B2 _ rfl)),.pushOwn _ _,q _ S.g.fresh.1 S.g.fresh.2 (iE B S.g)⟩
theorem W7(w:AD):∀h a,h.get? a=some {cls:=.type "dict",data:=.dict #[]}→Ee w h a (.dictI []):=fun h a e=>⟨[],⟨_,#[],0,e,⟨rfl,rfl,rfl⟩,rfl,fun n m=>by simp at m,.nil,je⟩,.nil⟩
theorem UW(w:AD):∀h a,h.get? a=some {cls:=.type "dict",data:=.dict #[]}→Ee w h a (.dictT []):=fun h a e=>⟨[],⟨_,#[],0,e,⟨rfl,rfl,rfl⟩,rfl,rfl,fun n m=>by simp at m,je⟩,.nil⟩
theorem pP{C:AB}{l:List Value}{kw:List (Str×Value)}:(UF "type.__call__" ⟨.ref C::l,kw⟩).weight=1∧(UF "type.__call__" ⟨.ref C::l,kw⟩).cUnits=1:=by
 constructor
 ·have h1:(UF "type.__call__" ⟨.ref C::l,kw⟩).frames=0:=by rfl
  have m:(UF "type.__call__" ⟨.ref C::l,kw⟩).isGuard=false:=by
   show guardIds.contains "type.__call__"=false;decide+kernel
  have n:(UF "type.__call__" ⟨.ref C::l,kw⟩).isCaller=false:=by rfl
  unfold Code.weight;rw[h1,m,n];rfl
 ·rfl
theorem Ah.make{n:Nat}(r:Ah A (n+1)){C:AB}{l:List Value}{kw:List (Str×Value)}:Ah (A.under (.builtin "type.__call__" ⟨.ref C::l,kw⟩)) n:=by
 refine AL (pP (C:=C) (l:=l) (kw:=kw)) fun m w2=>?_;refine⟨?_,?_,r.handled⟩
 ·show A.depth+Code.weight _+2*n<_;rw[m];have:=r.depth;exact BS dO this
 ·show A.units+Code.cUnits _+16*n<_;rw[w2];have:=r.units;exact BS mJ this
structure Pq(w:AD)(C fI:AB):Prop where
 m:makesIn (KK w) C=true
 i:QN (KK w) (.ref C) "__init__"=some (some (.ref fI))
 f:typeIn (KK w) (.ref fI)=some (.type "function")
theorem TQ(B:Aj)(X:Pq w C fI)(R:Ah A (n+1))
  (k:∀A',Ah A' n→∀x dx,σ x=none→hb.get? x=none→σ dx=none→hb.get? dx=none→x≠dx→
   EA A' (.ref fI) (.ref x::args) (upd (upd σ dx (.ns 0 fun zz=>none)) x (.inst C dx)) fun v σ'=>v=.none∧Φ (.ref x) σ'):AF A (.ref C) args σ Φ:=fun s vs g r=>by
 obtain⟨hh,gg,d,t,os⟩:=s;have XK:(KK w).In hh:=fun a o e=>g.base _ _ (B.K a o e);refine Kg (make_core (makes_of XK X.m) (jf XK X.i) (fun self=>bind_fn XK self X.f) (.inl rfl) ?_);have n1:=g.fresh;have a7:(hh.push ET).get? hh.objs.size=some ET:=B2 _ rfl;have g1:G (upd σ hh.objs.size (.ns 0 fun zz=>none)) (hh.push ET):=g.pushOwn ET ⟨_,#[],0,a7,rfl,rfl,fun zz he=>by simp at he,A9 _,fun y=>⟨fun zz=>by unfold Ik findBy;exact rfl,fun x e=>!As e⟩⟩;have a0:(hh.push ET).objs.size=hh.objs.size+1:=Jr ..;have n2:=g1.fresh;rw[a0]at n2;have g2:G (upd (upd σ hh.objs.size (.ns 0 fun zz=>none)) (hh.objs.size+1) (.inst C hh.objs.size)) ((hh.push ET).push (QX C hh.objs.size)):=by
  have:=g1.pushOwn (QX C hh.objs.size) (x:=.inst C hh.objs.size) (by
   show Heap.get? _ _=_;exact B2 _ rfl)
  rw[a0]at this;exact this
 have a6:hh.objs.size+1≠hh.objs.size:=Nat.succ_ne_self _;have a8:σ (hh.objs.size+1)=none:=by
  have:=n2.1;rw[Au _ _ a6]at this;exact this
 have kk:∀b o,hh.get? b=some o→((hh.push ET).push (QX C hh.objs.size)).get? b=some o:=fun b o e=>BC _ (BC _ e);have z:=k _ (R.make (C:=C) (l:=vs) (kw:=[])) (hh.objs.size+1) hh.objs.size a8 n2.2 n1.1 n1.2 a6 ⟨(hh.push ET).push (QX C hh.objs.size),gg,d,t,os⟩ (.ref (hh.objs.size+1)::vs) g2 (.cons (.ref _) (r.mono fun zz zz zz zz e zz zz=>kk _ _ e));refine N4 z fun rr s' hr=>?_;have R1:Aq σ ⟨hh,gg,d,t,os⟩ (upd (upd σ hh.objs.size (.ns 0 fun zz=>none)) (hh.objs.size+1) (.inst C hh.objs.size)) ⟨(hh.push ET).push (QX C hh.objs.size),gg,d,t,os⟩:=by
  have a1:Aq σ ⟨hh,gg,d,t,os⟩ (upd σ hh.objs.size (.ns 0 fun zz=>none)) ⟨hh.push ET,gg,d,t,os⟩:=Aq.pushOwn (s:=⟨hh,gg,d,t,os⟩) _ _;have a2:=Aq.pushOwn (σ:=upd σ hh.objs.size (.ns 0 fun zz=>none)) (s:=⟨hh.push ET,gg,d,t,os⟩) (QX C hh.objs.size) (.inst C hh.objs.size);have e:(⟨hh.push ET,gg,d,t,os⟩:AN).heap.objs.size=hh.objs.size+1:=a0;have a3:=a1.trans a2;rw[e]at a3;exact a3
 cases rr with
 |error e=>exact hr.elim
 |ok fl=>
  cases fl with
  |ret v=>
   refine BG hr fun av σ' r' g' t' a5=>?_;refine AL a5 fun a4 q=>?_;subst a4;obtain rfl:=Xp r';exact⟨rfl,.ref _,σ',.ref _,g',R1.trans t',q⟩
  |_=>exact hr.elim
theorem ZX{K:Frag}{C:AB}{m:ClassData}(e:clsIn K C=some m):∃o,K.lookup C=some o∧o.data=.cls m:=by
 unfold clsIn at e;cases h:K.lookup C with
 |none=>rw[h]at e;exact As e
 |some o=>
  rw[h]at e;obtain⟨c,d,n,sl⟩:=o;cases n<;>first|exact As e|(obtain rfl:=Ao e;exact⟨_,rfl,rfl⟩)
def Cs(A:AX)(c:Code)(env:Af)(t:Sem Il)(ρ:AW)(σ:AA)(Φ:CL→AW→AA→Prop):Prop:=
 ∀s,St env ρ σ s.heap→Yi (Ae pg w) A c t (PX env σ s Φ) (fun m m=>False) s
theorem Cs.of(x:I8 A env t ρ σ Φ):Cs A c env t ρ σ Φ:=fun s S=>wpAt_of_wpAny (x s S)
def uL(A:AX)(c:Code)(env:Af)(rest:List DC)(Φ:CL→AW→AA→Prop):CL→AW→AA→Prop
 |.next,ρ,σ=>Cs A c env (Fp rest env) ρ σ Φ
 |f,ρ,σ=>Φ f ρ σ
theorem Cs.cons{st:DC}(k:Cs A c env (GX st env) ρ σ (uL A c env rest Φ)):
  Cs A c env (Fp (st::rest) env) ρ σ Φ:=fun s S=>ks_wpAt_execs_cons (UG (k s S) (fun fl s₁ a5=>HO a5 fun f a1 a2 r n m q=>by
   cases fl<;>cases f<;>first
    |exact r.elim
    |exact UG (q s₁ n) (fun fl s₂ a6=>HO a6 fun f a0 σ₂ r a3 a4 q=>⟨f,a0,σ₂,r,a3,m.trans a4,q⟩) fun zz zz e=>e
    |exact⟨_,a1,a2,r,n,m,q⟩) fun zz zz e=>e)
theorem Xz{f:AB}{fd:Ai}{body:List DC}{names:List Str}{xs:List AV}{n:Nat}{Φ:AV→AA→Prop}(B:Aj)(F:Ak w f fd)(R:Ah A (n+1))
  (a4:fd.body=.stmts body)
  (k:∀L,Cs (A.deeper (BA fd L f)) (.func body (BA fd L f)) (BA fd L f) (Fp body (BA fd L f)) (B8 names xs) σ (backs Φ))
  (a7:∀vs:List Value,vs.length=names.length→HQ fd ⟨vs,[]⟩=pure (names.zip vs))(b0:xs.length=names.length)(ok:Ib fd names=true):
  EA A (.ref f) xs σ Φ:=fun s vs g r=>by
 obtain⟨c3,a6,a8,c1,a9,hk⟩:=Ib.p ok;refine B3 (F.obj B g.base) fun o ho hd hc=>?_;refine Ei B.T fun p loose mg mb T=>?_;have a5:vs.length=names.length:=by rw[←r.length,b0]
 have a0:∀x∈fd.scope.names,x.2≠.cell:=fun x hx=>by have:=Fo.mp a6 x hx;simpa using this
 refine ks_codeAny_call_defAt (fd:=fd) (body:=body) (binds:=names.zip vs) R.d ho hd (T.nolimit.keeps g.base) (Tt (K:=KK w) (fun a o e=>g.base _ _ (B.K a o e)) F.code) a4 (.of_eq (a7 vs a5)) a0
  (fun x hx=>?_) (fun a3 b7 a1=>?_) c1 a9 hk
 ·have:=Fo.mp a8 x.1 (QO hx).1;simpa using this
 ·have S:St (BA fd s.heap.objs.size f) (B8 names xs) σ a3:=by
   have a2:oc (BA fd s.heap.objs.size f)=[]:=by
    unfold oc;rw[jA.mpr];rfl;intro p hp;simp only[beq_iff_eq];intro e;exact a0 _ (mem_of_lookup e) rfl
   refine⟨g.keeps a1,⟨⟨_,b7,fun x av e zz=>?_⟩,fun c hc=>(by rw[a2]at hc;cases hc),fun x av e q=>?_,(by rw[a2];exact .nil),(by rw[a2];exact fun q=>nomatch q)⟩,g.fresh,fun c hc=>(by rw[a2]at hc;cases hc)⟩
   ·refine AI (Wx r c3 e) fun v e' r'=>?_;exact⟨v,e',r'.mono fun zz zz zz zz q zz zz=>a1 _ _ q⟩
   ·exact absurd rfl (a0 _ (mem_of_lookup q))
  refine UG (k s.heap.objs.size _ S) (fun fl s₂ b1=>HO b1 fun af c2 σ₂ b5 b2 b6 q=>?_) fun zz zz e=>DR e;refine AI (WD b5 q) fun av b4 b3=>?_;refine⟨av,σ₂,(by cases fl<;>exact b4),b2.g,.leave (env:=BA fd s.heap.objs.size f) (s₁:={s with heap:=a3,toks:=s.toks+(names.zip vs).length}) a1 (fun a m=>?_) rfl rfl b6,b3⟩;rcases A7.mp m with rfl|m
  ·exact GM _
  ·exfalso;refine AI (BD.mp m) fun p hp zz=>?_;have:=(Dn.mp hp).2;simp only[beq_iff_eq]at this;exact a0 _ (mem_of_lookup this) rfl
structure OZ(w:AD)(fd:Ai)(cc D:AB)(me:Str):Prop where
 par:∃ar,(fd.params.posonlyargs++fd.params.args).head? =some ar∧ar.arg=me
 code:∃cda ccl cdd vs ccs file tf,fd.code=.ref cda∧(KK w).lookup cda=some ⟨ccl,cdd,.fields vs,ccs⟩∧vs[2]? =some (.str file tf)∧((pg.main.file:Str)==file)=true
 cell:∃cl cld csl,(KK w).lookup cc=some ⟨cl,cld,.cell (some (.ref D)),csl⟩
 cls:∃cdD,clsIn (KK w) D=some cdD
 sup:Co (KK w) Bk "super"=some none
 boot:Gy "super"=some (.type "super")
 any:Co (KK w) cStatics "thirdparty.any"=some none
 top:(pg.main.scope.names.lookup ("super":Str)).isSome=false
structure Rl(w:AD)(C D:AB)(name:Str)(f2:AB):Prop where
 sub:mroIn (KK w) C (.ref D)=some true
 m:ks_superIn (KK w) C D name=some (some (.ref f2))
 t:typeIn (KK w) (.ref f2)=some (.type "function")
 fn:fnIn (KK w) f2=true
 nm:(name==("__class__":Str))=false
 nC:(KK w).lookup C≠none
theorem V4(B:Aj)(F:Ak w f fd)(X:OZ w fd cc D self)(Y:Rl w C D name f2)
  (b1:ρ self=some (.ref x))(hl:fd.scope.names.lookup self=some .local)(d2:fd.scope.names.lookup ("super":Str)=some .globalImplicit)(d5:fd.scope.names.lookup ("__class__":Str)=some .free)(b7:fd.closure=[(("__class__":Str),cc)])
  (hk:fd.scope.kind=.function)(hg:fd.globals=Bk)(e4:fd.builtins=Tj)(I:Du σ x C dx n fs)
  (k:AC A (BA fd L f) a2 args ρ σ fun xs b3=>EA A (.ref f2) (.ref x::xs) b3 Φ)(hp:CO args=true)
  (he:A0 (.Call (.Attribute (.Call (.Name "super" p0) [] [] p1) name a8) args [] a2) (BA fd L f)=(do
   let ov ←attributeBase (.Call (.Name "super" p0) [] [] p1) name (BA fd L f) (A0 (.Call (.Name "super" p0) [] [] p1) (BA fd L f))
   Cp a8.atName
   let(q,first) ←CW [ov] (GZ ov name pl)
   ES a2 q first (Dp a2 (Bb args (BA fd L f))) []))
  (s:AN)(S:St (BA fd L f) ρ σ s.heap):
  Yi (Ae pg w) A (.func body (BA fd L f)) (A0 (.Call (.Attribute (.Call (.Name "super" p0) [] [] p1) name a8) args [] a2) (BA fd L f)) (PV σ s Φ) (fun _ _=>False) s:=by
 refine AI X.par fun ar c9 a5=>?_;refine Ei X.code fun g3 f1 g9 vs d4=>LY d4 fun f4 e9 tf c6=>Bv c6 fun b0 c8 d6 a9=>?_;refine LY X.cell fun cl f0 g0 b2=>?_;refine AY X.cls fun e6 c4=>?_;refine Ei B.T fun p loose mg mb T=>?_;have XK:(KK w).In s.heap:=fun a o e=>S.g.base _ _ (B.K a o e);refine B3 (F.obj B S.g.base) fun of e3 e8 f3=>?_;obtain⟨oD,d1,c1⟩:∃oD,s.heap.get? D=some oD∧oD.data=.cls e6:=by
  refine AI (ZX c4) fun o e1 e2=>?_;exact⟨o,XK _ _ e1,e2⟩
 refine AI S.l.ns fun m hn hm=>?_;refine AI (hm self (.ref x) b1 hl) fun e7 a1 b5=>?_;obtain rfl:=Bi b5;have hx:=(S.g.own _ _ I.i).2;refine ks_wpAt_MethodCall (pl:=pl) ?_ he;refine ks_wpAt_super_base (env:=BA fd L f) d2 d5 Y.nm rfl e3 e8 c9 b0 (XK _ _ c8) rfl d6 a9 X.top ?_;refine ks_loadName_global hk d2 (i4 (env:=BA fd L f) (show s.heap.Ns (BA fd L f).globals mg by show s.heap.Ns fd.globals mg;rw[hg];exact T.g.keeps S.g.base) (mg_none_of B.K T.g X.sup) (show s.heap.Ns (BA fd L f).builtins mb by show s.heap.Ns fd.builtins mb;rw[e4];exact T.b.keeps S.g.base) ((T.builtins _ (by decide+kernel)).trans X.boot) ⟨rfl,?_⟩);refine wpAny_loadName_free hk d5 (show(BA fd L f).cells.lookup _=some cc by show fd.closure.lookup _=_;rw[b7];rfl) ⟨_,XK _ _ b2,rfl⟩ ?_;rw[a5];refine Lr hk hl hn a1 ?_;refine ks_wpAny_isType_cls d1 c1 ⟨rfl,?_⟩;obtain⟨hh,gg,dd,tt,os⟩:=s;refine ks_wpAny_call_super d1 c1 hx rfl (fun c e=>!nomatch e) (Yj XK Y.sub) (fun h' e kp=>?_);have g1:G σ h':=S.g.keeps kp;have t1:Aq σ ⟨hh,gg,dd,tt,os⟩ σ ⟨h',gg,dd,tt,os⟩:=.keeps kp rfl rfl;have S1:St (BA fd L f) ρ σ h':=S.step (s:=⟨hh,gg,dd,tt,os⟩) (s':=⟨h',gg,dd,tt,os⟩) g1 t1;have a4:(KK w).In h':=fun a o e=>g1.base _ _ (B.K a o e);have a0:=Y.m;cases hc:clsIn (KK w) C with
 |none=>unfold ks_superIn at a0;rw[hc]at a0;cases a0
 |some cd=>
  unfold ks_superIn at a0;rw[hc]at a0;obtain⟨f5,d3,b4⟩:∃of,h'.get? f2=some of∧of.cls=.type "function":=by
   have a3:((KK w).lookup f2).map (·.cls)=some (.type "function"):=Y.t;cases z:(KK w).lookup f2 with
   |none=>rw[z]at a3;cases a3
   |some of=>rw[z]at a3;exact⟨of,a4 _ _ z,Ao a3⟩
  have e5:x≠C:=fun e=>by
   have:=(S.g.own _ _ I.i).1;rw[e]at this;cases z:(KK w).lookup C with
   |none=>exact Y.nC z
   |some o=>exact Bh (((B.K _ _ z).symm.trans this))
  refine ks_wpAny_getMethod_super e (looks_opaque a4 X.any) (l₀:=cd.mro) (fun A Q E s k q=>AE ((Tq a4 hc) A _ E s k (Ad q))) rfl a4 a0 d3 b4 e5 Y.nm ?_;have g2:G σ (h'.push (MD (.ref f2) (.ref x))):=g1.push _;have t2:Aq σ ⟨hh,gg,dd,tt,os⟩ σ ⟨h'.push (MD (.ref f2) (.ref x)),gg,dd,tt+1,os⟩:=t1.trans ((Aq.push (s:=⟨h',gg,dd,tt,os⟩) (MD (.ref f2) (.ref x))).trans (.toks (tt+1)));have S2:St (BA fd L f) ρ σ (h'.push (MD (.ref f2) (.ref x))):=S.step (s:=⟨hh,gg,dd,tt,os⟩) (s':=⟨h'.push (MD (.ref f2) (.ref x)),gg,dd,tt+1,os⟩) g2 t2;have hq:(h'.push (MD (.ref f2) (.ref x))).get? h'.objs.size=some (MD (.ref f2) (.ref x)):=B2 _ rfl;have nq:=g1.fresh;refine callWith_of (P:=MethP (KK w) h'.objs.size f2 (.ref x)) (by rw[E7 hp];rfl) (keeps_M Y.fn) (Gg (E7 hp) ?_);refine AT (k ⟨h'.push (MD (.ref f2) (.ref x)),gg,dd,tt+1,os⟩ S2) (fun vs b6 c3=>GV c3 fun xs e0 c5 a7 a6 q=>?_) fun _ _ e=>e;have c2:=(a6.kept nq.1 hq (fun _ _ q=>!nomatch q)).1;refine⟨⟨c2,fun a o e=>a7.base _ _ (B.K a o e)⟩,Kg (method_call c2 ?_)⟩;refine N4 (q b6 (.ref x::vs) a7 (.cons (.ref _) c5)) fun rr s' hr=>?_;cases rr with
  |error e=>exact hr.elim
  |ok fl=>
   cases fl with
   |ret v=>
    refine BG hr fun av σ' r' g' t' q=>?_;exact⟨av,σ',r',g',t2.trans (a6.trans t'),q⟩
   |_=>exact hr.elim
theorem iG
  (k:∀s,St (BA fd L f) ρ σ s.heap→Yi (Ae pg w) A (.func body (BA fd L f)) (A0 e (BA fd L f)) (PV σ s (fun n σ'=>Φ .next ρ σ')) (fun n n=>False) s)
  (hi:autoParam (interactive (BA fd L f)=false) aR)(hs:autoParam (QL e none a0.line (BA fd L f)=pure false) aR):
  Cs A (.func body (BA fd L f)) (BA fd L f) (GX (.Expr e a0) (BA fd L f)) ρ σ Φ:=fun s S=>
 ks_wpAt_Expr_any (UG (k s S) (fun v s' m=>BG m fun av σ' r g t q=>⟨.next,ρ,σ',trivial,S.step g t,t.toF,q⟩) fun n n e=>e) hi hs
theorem Zeg
  (k:∀s,St (BA fd L f) ρ σ s.heap→Yi (Ae pg w) A (.func body (BA fd L f)) (A0 e (BA fd L f)) (PV σ s (fun n σ'=>Φ (.ret n) ρ σ')) (fun zz zz=>False) s):
  Cs A (.func body (BA fd L f)) (BA fd L f) (GX (.Return (some e) a0) (BA fd L f)) ρ σ Φ:=fun s S=>
 ks_wpAt_Return_some (UG (k s S) (fun v s' m=>BG m fun n σ' r g t q=>⟨.ret n,ρ,σ',r,S.step g t,t.toF,q⟩) fun zz zz e=>e)
theorem Zdl{x y:Str}{b:Bool}{Φ:AV→AA→Prop}(e:(not ((Zfa x y 0 x.length 1).isEmpty))=b)(q:Φ (.bool b) σ):AM A (EC .In) (.str y) (.str x) σ Φ:=fun s u v g r1 r2=>by
 refine AY (VR.inv_str r1) fun zz m=>?_;subst m;refine AY (VR.inv_str r2) fun zz n=>?_;subst n;exact PyProof.Rows.in_str (by rw[e];exact⟨_,σ,.bool _,g,.refl _ _,q⟩)
theorem Zdr{x:Str}{b:Bool}{Φ:AV→AA→Prop}(e:Txt.isspace x=b)(q:Φ (.bool b) σ):AF A (.builtin "str.isspace") [.str x] σ Φ:=fun s vs g r=>by
 cases r with
 |cons n r2=>
  refine AY (VR.inv_str n) fun zz m=>?_;subst m;cases r2;exact SC.isspace (by rw[e];exact⟨_,σ,.bool _,g,.refl _ _,q⟩)
theorem Zcq{id:String}(a2:N5 "str" name id)(a3:No (.builtin id)=pure (.type "method_descriptor"))
  (k:EV A env o ρ σ fun ov n=>ov=.str x∧AC A env m args ρ n fun ys σ₂=>AF A (.builtin id) (.str x::ys) σ₂ Φ)(hp:autoParam (CO args=true) aR)
  (he:autoParam (A0 (.Call (.Attribute o name a0) args [] m) env=(do
   let ov ←A0 o env
   Cp a0.atName
   let(f,first) ←CW [ov] (GZ ov name pl)
   ES m f first (Dp m (Bb args env)) (H3 m (H4 [] env)))) aR):
  EV A env (.Call (.Attribute o name a0) args [] m) ρ σ Φ:=
 TZ PySem.F.plainAttrs_str a2 a3 (k.mono fun ov n a1=>AL a1 fun e1 q=>by
  subst e1;refine⟨fun s u g r=>?_,q⟩;refine AY (VR.inv_str r) fun zz a4=>?_;subst a4;exact⟨typeIs_str _ _ _,fun a e=>!nomatch e⟩) hp he
end
abbrev J5(xs:Array Nat):Prop:=xs.toList.Pairwise (· <·)
theorem J5.lt(h:J5 xs){i j a b:Nat}(m:i<j)(n:xs[i]? =some a)(hb:xs[j]? =some b):a<b:=by
 rw[←Dx]at n hb;refine AY (BY.mp n) fun h1 e1=>?_;refine AY (BY.mp hb) fun h2 e2=>?_;have:=QY.mp h i j h1 h2 m;rw[e1,e2]at this;exact this
theorem km(h:J5 xs):∀(m lo n:Nat),n≤xs.size→n≤lo+m→lo≤n→(∀i a,i<lo→xs[i]? =some a→a<j)→(∀i a,n≤i→xs[i]? =some a→j≤a)→
  Kk xs j m lo n≤xs.size∧(∀i a,i<Kk xs j m lo n→xs[i]? =some a→a<j)∧(∀i a,Kk xs j m lo n≤i→xs[i]? =some a→j≤a):=by
 intro m
 induction m with
 |zero=>
  intro lo n h1 h2 h3 l u;have:lo=n:=by exact Ep h3 h2
  subst this;exact⟨h1,l,u⟩
 |succ m a2=>
  intro lo n h1 h2 h3 l u;change(if lo<n then if xs.getD ((lo+n) / 2) j<j then Kk xs j m ((lo+n) / 2+1) n else Kk xs j m lo ((lo+n) / 2)else lo)≤_∧(∀i a,i<(if lo<n then if xs.getD ((lo+n) / 2) j<j then Kk xs j m ((lo+n) / 2+1) n else Kk xs j m lo ((lo+n) / 2)else lo)→_)∧∀i a,(if lo<n then if xs.getD ((lo+n) / 2) j<j then Kk xs j m ((lo+n) / 2+1) n else Kk xs j m lo ((lo+n) / 2)else lo)≤i→_;split
  ·rename_i a0;have hm:(lo+n) / 2<xs.size:=by exact qz h1 a0
   have hx:xs[(lo+n) / 2]? =some xs[(lo+n) / 2]:=Ki hm;have hd:xs.getD ((lo+n) / 2) j=xs[(lo+n) / 2]:=by simp[Array.getD,hm]
   rw[hd];split
   ·rename_i q;refine a2 _ n h1 (!lT h2) (!Zb2 a0) (fun i a a1 e=>?_) u;by_cases e':i=(lo+n) / 2
    ·subst e';obtain rfl:=Ao ((hx.symm.trans e));exact q
    ·exact jg (h.lt (!zN a1 e') e hx) q
   ·rename_i q;refine a2 lo _ (!Cy hm) (!yk h2) (!nY a0) l (fun i a a1 e=>?_);by_cases e':i=(lo+n) / 2
    ·subst e';obtain rfl:=Ao ((hx.symm.trans e));exact EU q
    ·have:=h.lt (!Zag a1 e') hx e;exact AK (EU q) (Cy this)
  ·have:lo=n:=by exact Al Zbt h3 (by assumption)
   subst this;exact⟨h1,l,u⟩
theorem Wo{xs:Array Nat}{j:Nat}(h:J5 xs):Er xs j≤xs.size∧(∀i a,i<Er xs j→xs[i]? =some a→a<j)∧(∀i a,Er xs j≤i→xs[i]? =some a→j≤a):=
 km h _ _ _ (A9 _) (!A6 rc) (Be _) (fun i a m n=>absurd m (Lq _)) fun i a m e=>absurd (Ny.mp e).1 (!Nat.not_lt.2 m)
theorem rK(h:J5 xs)(hj:xs[Er xs j]? ≠some j):J5 (SetTable.insertAt xs (Er xs j) j):=by
 refine BN (Wo (j:=j) h) fun h1 h2 h3=>?_;have hn:∀a∈xs.toList.drop (Er xs j),j<a:=fun a n=>by
  refine AY (Zfb.mp n) fun i m=>?_;rw[List.getElem?_drop,Dx]at m;have:=h3 _ a (Nat.le_add_right _ _) m;by_cases e:a=j
  ·subst e;exfalso;cases i with
   |zero=>exact hj m
   |succ i=>
    have hb:Er xs a<xs.size:=by have:=(Ny.mp m).1;exact BS Zbx this
    have hx:xs[Er xs a]? =some xs[Er xs a]:=Ki hb;have:=h3 _ _ (A9 _) hx;have:=h.lt (!Al uv) hx m;exact Cf zM hb (by assumption) this
  ·exact Al wK this e
 have hp:∀a∈xs.toList.take (Er xs j),a<j:=fun a n=>by
  refine AY (Zfb.mp n) fun i m=>?_;rw[List.getElem?_take]at m;split at m
  ·rw[Dx]at m;exact h2 _ a (by assumption) m
  ·exact As m
 show jh _ _;rw[SetTable.toList_insertAt];refine ji.mpr ⟨h.sublist (List.take_sublist _ _),Jt.mpr ⟨hn,h.sublist (List.drop_sublist _ _)⟩,fun a n b hb=>?_⟩;rcases A7.mp hb with rfl|hb
 ·exact hp a n
 ·exact jg (hp a n) (hn b hb)
theorem sM(n:Nat):J5 (Array.range n):=by
 show jh _ _;rw[Array.toList_range];exact jj
structure GD(bt:Bool)(t:SetTable):Prop where
 asc:J5 t.place
 dum:t.dummies=#[]
 led:bt=true∨t.led=true
theorem oB(hd:t.dummies=#[]):∀(m:Nat)(p:SetTable.Probe),p.dummy=none→∀{j d},Yk t f h m p=some (.empty j d)→d=none∧t.slot j=.empty:=by
 intro m
 induction m with
 |zero=>
  intro p _ j d e;exact As e
 |succ m a2=>
  intro p hp j d e;have a1:(t.advance p).dummy=none:=by
   unfold SetTable.advance;split
   ·exact hp
   ·exact hp
  change(match t.slot p.j with|.empty=>some (SetTable.Met.empty p.j p.dummy)|.dummy=>Yk t f h m (t.advance {p with dummy:=some p.j})|.live i=>if f i==h then some (Zfc p.j i (t.advance p))else Yk t f h m (t.advance p))=_ at e
  cases q:t.slot p.j with
  |empty=>
   rw[q]at e;refine AL (Zg5 (Ao e)) fun n a0=>?_;subst n;subst a0;exact⟨hp,q⟩
  |dummy=>
   exfalso;unfold SetTable.slot at q;rw[hd]at q;change(if(t.place[Er t.place p.j]? ==some p.j)=true then SetTable.Slot.live (Er t.place p.j)else SetTable.Slot.empty)=SetTable.Slot.dummy at q;split at q
   ·exact nomatch q
   ·exact nomatch q
  |live i=>
   rw[q]at e;change(if f i==h then some (Zfc p.j i (t.advance p))else Yk t f h m (t.advance p))=_ at e;split at e
   ·exact(nomatch (Ao e))
   ·exact a2 _ a1 e
set_option tactic.hygienic true in
theorem w4{t:SetTable}(hd:t.dummies=#[])(e:t.freeSlot h=some (j,b)):b=false∧t.slot j=.empty:=by
 unfold SetTable.freeSlot at e;split at e
 ·rename_i n d q;refine AL (oB hd _ _ rfl q) fun m k=>?_;subst m;obtain⟨rfl,rfl⟩:=Nj (Ao e);exact⟨rfl,k⟩
 ·exact As e
theorem vF{t:SetTable}(e:t.slot j=.empty):t.place[Er t.place j]? ≠some j:=by
 intro q;unfold SetTable.slot at e;simp only[q,beq_self_eq_true,if_true]at e;exact nomatch e
theorem GD.standIn{bt:Bool}{t:SetTable}(T:GD bt t)(n:Nat):GD bt (t.standIn n):=⟨sM n,rfl,T.led⟩
set_option tactic.hygienic true in
theorem GD.new{bt:Bool}{t:SetTable}(T:GD bt t)(es:Array (Int×Value))(h:Int)(x:Value):GD bt (layNew t es h x).2.1:=by
 unfold layNew;split
 ·rename_i j b e;refine AL (w4 T.dum e) fun _ q=>?_;show GD bt ((t.put j).1.orStandIn _);unfold SetTable.orStandIn;have T':GD bt (t.put j).1:=⟨rK T.asc (vF q),by unfold SetTable.put;simp[T.dum,SetTable.has],T.led⟩;split
  ·exact T'
  ·exact T'.standIn _
 ·exact T.standIn _
theorem yJ(f:Nat→Option Nat):∀{l:List Nat},l.Pairwise (· <·)→((l.filterMap fun j=>(f j).map fun x=>(j,x)).map (·.1)).Pairwise (· <·):=fun{l} h=>by
 have:((l.filterMap fun j=>(f j).map fun x=>(j,x)).map (·.1)).Sublist l:=by
  clear h
  induction l with
  |nil=>exact .slnil
  |cons a l m=>
   rw[N1];cases f a with
   |none=>exact m.cons a
   |some b=>exact m.cons₂ a
 exact h.sublist this
set_option tactic.hygienic true in
theorem GD.relay{bt:Bool}{t:SetTable}(T:GD bt t)(es:Array (Int×Value))(n:Nat):GD bt (UH t es n).2.1:=by
 unfold UH;split
 ·rename_i t' m e;dsimp only;split
  ·unfold SetTable.relaid SetTable.laid at e;cases hq:SetTable.layClean (SetTable.sizeAbove n-1) (es.map (·.1))with
   |none=>rw[hq]at e;cases e
   |some owner=>
    rw[hq]at e;cases e;refine⟨?_,rfl,T.led⟩;exact yJ _ jj
  ·exact T.standIn _
 ·exact T.standIn _
section
variable {A:AX} {E:Value→AN→Prop} {s:AN}
def PD:Value→Int
 |.int i _=>i
 |_=>0
abbrev bt(w:AD):Bool:=w.params.followText "set-order"
structure Gj(w:AD)(es:Array (Int×Value))(t:SetTable)(S:Int→Bool)(n:Nat):Prop where
 el:ElemsOf (FG pg w) es.toList
 mem:∀k,S k=true↔∃e∈es.toList,(FG pg w).is k e.2=true
 nd:(es.toList.map fun e=>PD e.2).Nodup
 sz:es.size=n
 lt:n<Kd
 fits:t.fits es.size=true
 tab:GD (bt w) t
def Vx(w:AD)(h:A5)(a:AB)(S:Int→Bool)(n:Nat):Prop:=
 ∃es ep t,h.get? a=some {cls:=.type "set",dict:=none,data:=.set es ep t,slots:=#[]}∧Gj w es t S n
theorem Gj.perm(D:Gj w es t S n)(p:m.toList.Perm es.toList)(f:t'.fits m.size=true)(T:GD (bt w) t'):Gj w m t' S n:=by
 refine⟨D.el.perm p,fun k=>(D.mem k).trans ⟨fun a0=>AI a0 fun e he q=>⟨e,p.mem_iff.mpr he,q⟩,fun a1=>AI a1 fun e he q=>⟨e,p.mem_iff.mp he,q⟩⟩,(p.map _).nodup_iff.mpr D.nd,?_,D.lt,f,T⟩;rw[←Gz,p.length_eq,Gz];exact D.sz
theorem fq
  (ho:s.heap.get? a=some {cls:=.type "set",dict:=none,data:=.set es ep t,slots:=#[]})(hf:n.fits m.size=true)(hz:m.size<Kd)
  (h:∀h',FH a s.heap h'→h'.get? a=some {cls:=.type "set",dict:=none,data:=.set m (ep+1) n,slots:=#[]}→Q Unit.unit {s with heap:=h'}):AR (Ae pg w) A (storeSet a m n) Q E s:=by
 refine wpAny_storeSet_of ho rfl ?_ ?_
 ·refine h _ (Eo s.heap a (Obj.putSet m n)) ?_;have:=GY (Obj.putSet m n) ho (by rw[putSet_of m n rfl];rfl);rw[putSet_of m n rfl]at this;exact this
 ·exact jk hz
theorem Gj.push(D:Gj w es t S n)(hk:S k=false)(hr:n+1<Kd)(p:m.toList.Perm (es.toList++[((FG pg w).hash k,N6 k tk)]))
  (f:t1.fits m.size=true)(T:GD (bt w) t1):Gj w m t1 (fun k'=>S k'||decide (k'=k)) (n+1):=by
 refine⟨(D.el.push (Yl _ _ _ tk) rfl).perm p,mem_push_iff (Yl pg w k tk) D.mem p,(p.map _).nodup_iff.mpr ?_,?_,hr,f,T⟩
 ·rw[Cw,List.map_singleton];refine Nx.mpr ⟨D.nd,by simp,fun x hx y hy e=>?_⟩;rw[Ap]at hy;have a2:x=k:=e.trans hy;refine AI (BD.mp hx) fun e he q=>?_;have:S k=true:=(D.mem k).mpr ⟨e,he,by
   refine AL (D.el e he) fun a1 zz=>AI a1 fun k' a0 zz=>?_;refine AY (QI a0) fun u hu=>?_;rw[hu]at q;have:k'=k:=Eq.trans q a2;subst this;exact a0⟩
  exact(nomatch ((hk.symm.trans this)))
 ·rw[←Gz,p.length_eq,BJ,Gz,D.sz];rfl
theorem sJ(hS:Vx w s.heap a S n)(hr:n+1<Kd)
  (h:∀h',FH a s.heap h'→Vx w h' a (fun k'=>S k'||decide (k'=k)) (if S k then n else n+1)→Q (not (S k)) {s with heap:=h'}):
  AR (Ae pg w) A (setAddHashed a (.int k tk) ((FG pg w).hash k)) Q E s:=by
 refine K0 hS fun es ep t ho D=>?_;have hb:es.size<Kd:=by rw[D.sz];exact D.lt
 unfold setAddHashed setAddHashedIn;refine CI (AE (QZ ho rfl D.fits ?_));dsimp only;rw[byScan_of (knd:=FG pg w) rfl hb D.el];simp only[↓reduceIte];unfold setAddByScan;refine AE (AE (MB (AE (wpAny_setScan_of (Yl pg w k tk) ho rfl D.fits D.el ?_))));cases hf:List.findIdx? (fun e=>(FG pg w).is k e.2) es.toList with
 |some j=>
  dsimp only;refine AI (List.findIdx?_eq_some_iff_getElem.mp hf) fun hj hp zz=>?_;have hk:S k=true:=(D.mem k).mpr ⟨es.toList[j],T5 hj,hp⟩;refine Ad (Ad ?_);have:=h s.heap (Heap.SameBut.refl a s.heap) ⟨es,ep,t,ho,D.el,fun k'=>by
   rw[Bool.or_eq_true,decide_eq_true_eq,←D.mem k'];exact⟨fun q=>q.elim id fun e=>e▸hk,.inl⟩,D.nd,by rw[hk];exact D.sz,by rw[hk];exact D.lt,D.fits,D.tab⟩
  rw[hk]at this;exact this
 |none=>
  dsimp only;have hk:S k=false:=by
   cases q:S k with
   |false=>rfl
   |true=>refine AI ((D.mem k).mp q) fun e he hp=>?_;have:=List.findIdx?_eq_none_iff.mp hf e he;exact(nomatch ((hp.symm.trans this)))
  rw[hk]at h;have gw:∀(b:Bool){s₁:AN}{Q':Unit→AN→Prop},Q' Unit.unit s₁→AR (Ae pg w) A (match b with|true=>rule "set.scan.the-table-gave-way"|false=>pure Unit.unit) Q' E s₁:=
   fun b s₁ Q' q=>by cases b<;>first|exact Ad q|exact MB q
  have p1:=layNew_perm t es ((FG pg w).hash k) (.int k tk);have f1:=layNew_fits t es ((FG pg w).hash k) (.int k tk);have t1:=D.tab.new es ((FG pg w).hash k) (.int k tk);generalize hL:layNew t es ((FG pg w).hash k) (.int k tk)=N at p1 f1 t1 ⊢;obtain⟨m,a5,a0,a9⟩:=N;dsimp only at p1 f1 t1 ⊢;rw[QT]at p1;refine AE (gw _ ?_);have D1:=D.push hk hr p1 f1 t1;have a1:∀{g:Bool→Sem Unit}(hg:∀(b:Bool)(s₁:AN)(Q':Unit→AN→Prop),Q' Unit.unit s₁→AR (Ae pg w) A (g b) Q' E s₁){t2:SetTable},Gj w m t2 (fun k'=>S k'||decide (k'=k)) (n+1)→AR (Ae pg w) A (do
    storeSet a m t2
    if(not (a0)&&t2.tooFull)=true then do
      g (UH t2 m (Qa m.size)).2.2
      storeSet a (UH t2 m (Qa m.size)).1 (UH t2 m (Qa m.size)).2.1
      pure (some true)
     else pure (some true)) (fun r s'=>r=some true∧Q true s') E s:=fun{g} hg {t2} D2=>by
   refine AE (fq ho D2.fits (by rw[D2.sz];exact D2.lt) fun h1 a4 a3=>?_);split
   ·refine AE (hg _ _ _ ?_);have D3:=D2.perm (relayAll_perm t2 m (Qa m.size)) (relayAll_fits t2 m (Qa m.size)) (D2.tab.relay m (Qa m.size));refine AE (fq a3 D3.fits (by rw[D3.sz];exact D3.lt) fun h2 a8 a7=>?_);exact Ad ⟨rfl,h h2 (a4.trans a8) ⟨_,_,_,a7,D3⟩⟩
   ·exact Ad ⟨rfl,h h1 a4 ⟨_,_,_,a3,D2⟩⟩
  have hg:∀(b:Bool)(s₁:AN)(Q':Unit→AN→Prop),Q' Unit.unit s₁→AR (Ae pg w) A (match b with|true=>rule "set.scan.the-table-gave-way"|false=>pure Unit.unit) Q' E s₁:=fun b s₁ Q' q=>gw b q
  split
  ·refine AE ?_;rw[hashByValue_scannable 8 (x:=.int k tk) rfl];refine Ad ?_;refine AT (a1 (g:=fun b=>match b with|true=>rule "set.scan.the-table-gave-way"|false=>pure Unit.unit) hg (t2:=a5) D1) (fun r s' a6=>AL a6 fun e q=>by subst e;exact Ad q) fun zz zz e=>e
  ·refine AE (Ad ?_);simp only[↓reduceIte];refine AT (a1 (g:=fun b=>match b with|true=>rule "set.scan.the-table-gave-way"|false=>pure Unit.unit) hg (t2:=a5) D1) (fun r s' a2=>AL a2 fun e q=>by subst e;exact Ad q) fun zz zz e=>e
def Hf(w:AD)(h:A5)(a:AB)(ns:List Int):Prop:=∃m,m≤ns.length∧Vx w h a (fun k=>ns.any (· ==k)) m
theorem Hf.at{h h':A5}{a:AB}{ns:List Int}(x:Hf w h a ns)(k:∀o,h.get? a=some o→h'.get? a=some o):Hf w h' a ns:=by
 refine AY x fun m n=>AL n fun hm a0=>K0 a0 fun es ep t ho D=>?_;exact⟨m,hm,es,ep,t,k _ ho,D⟩
theorem oY(r:Jp vs ns)(i:Nat)(v:Value)(h:vs[i]? =some v):∃t k,v=.int k t∧ns[i]? =some k:=by
 induction r generalizing i with
 |nil=>simp at h
 |cons n t hr m=>
  cases i with
  |zero=>simp at h;exact⟨t,n,h.symm,rfl⟩
  |succ i=>exact m i (by simpa using h)
theorem mM{fp wr:List AB}{G:Array Gw→Array Gw→Prop}{St:Nat→AN→Prop}
  (W:WalksS pg w A.in1 I fp wr G n P St)(S:AB)(a7:S∉fp)(ns:List Int)(hn:ns.length=n)(a5:∀i v,P i v→∃t k,v=.int k t∧ns[i]? =some k)(hb:n+1<Kd):
  ∀(k i:Nat)(s:AN),n-i=k→i≤n→St i s→Hf w s.heap S (ns.take i)→(∀s',Moved (S::wr) G s s'→Hf w s'.heap S ns→R (.ok (.ret .none)) s')→
   FI (Ae pg w) A (.builtin "set.update.loop" ⟨[.ref S,.ref I],[]⟩) R s:=by
 have b1:S∉wr:=fun h=>a7 (W.sub _ h);have a1:∀b∈wr,b∈S::wr:=fun b hb=>Tw _ hb;intro k
 induction k with
 |zero=>
  intro i s hk hi a3 hS hR;have b3:i=n:=by exact xA hk hi
  subst b3;rw[←hn,jl]at hS;refine N7 Zfd ?_;rw[UI jm _];show AR _ A.in1 (Jq (.ref I)>>=_) _ _ s;refine AE (W.done s _ _ a3 fun s' hm=>?_);show AR _ A.in1 (ret MA) _ _ s';exact Ad (hR s' (hm.mono a1) (hS.at fun o e=>hm.heap S o b1 e))
 |succ k ih=>
  intro i s hk hi a3 hS hR;have a2:i<n:=by exact pq hk
  refine N7 Zfd ?_;rw[UI jm _];show AR _ A.in1 (Jq (.ref I)>>=_) _ _ s;refine AE (W.item i s _ _ a2 a3 fun v s' hP a9 hm=>?_);refine Cr (a5 i v hP) fun t z a8 hz=>?_;subst a8;refine AI (hS.at (h':=s'.heap) fun o e=>hm.heap S o b1 e) fun m a0 b4=>?_;rw[N8]at a0;show AR _ A.in1 (CW [N6 z t] (setAdd S (.int z t))>>=_) _ _ s';refine AE (CI ?_);unfold setAdd;refine CI ?_;refine AE ((FG pg w).pyHash (k:=z) (Yl _ _ _ _) ?_);refine sJ (s:={s' with toks:=s'.toks+1}) b4 (!Zbv hb a2 a0) fun h' a4 b2=>?_;have b5:Hf w h' S (ns.take (i+1)):=by
   have e:ns.take (i+1)=ns.take i++[z]:=by rw[G4,hz];rfl
   rw[e];have ef:(fun k'=>((ns.take i++[z]).any (· ==k')))=fun k'=>((ns.take i).any (· ==k'))||decide (k'=z):=by
    funext k';rw[List.any_append];by_cases q:k'=z
    ·subst q;simp
    ·have:(z==k')=false:=beq_eq_false_iff_ne.mpr (Ne.symm q);simp[this,q]
   unfold Hf;rw[ef];exact⟨_,by simp only[BJ,N8,DD];split<;>(first|exact ki a0|exact wm a0),b2⟩
  refine Ad ⟨Ym jm _,ih (i+1) _ (!u5 hk) a2 (W.frame _ s' _ _ a9 (G1 _) fun b hb o e=>?_) b5 fun s'' a6 b0=>?_⟩
  ·rw[a4.2 b (fun h:b=S=>a7 (by rw[←h];exact hb))];exact e
  ·refine hR s'' (Moved.trans W.gtrans ((hm.mono a1).then_heap (G1 _) fun b o hb e=>?_) a6) b0;rw[a4.2 b (fun h:b=S=>hb (by rw[h];exact Dq))];exact e
theorem mI(hl:bt w=true∨m=true)(e:h.get? a=some {cls:=.type "set",dict:=none,data:=.set #[] 0 (.fresh 0 0 m)}):Hf w h a []:=
 ⟨0,A9 _,#[],0,_,e,fun e n=>by simp at n,fun k=>by simp,by exact⋯,rfl,by decide,by rfl,⟨by show jh _ _;simp[SetTable.fresh],rfl,hl⟩⟩
theorem sx(a:Value)
  (h:Q₁ (.ref s.heap.objs.size) {s with heap:=s.heap.push {cls:=.type "set",dict:=none,data:=.set #[] 0 (.fresh 0 0 (not (bt w)))}}):
  FI (Ae pg w) A (.call (.builtin "set.__new__") ⟨[.type "set",a],[]⟩) (wants Q₁ E) s:=by
 refine UJ ?_;show AR _ A.in1 (do checkBuiltinCall "set.__new__" ⟨[.type "set",a],[]⟩;again (.builtin "set.__new__" ⟨[.type "set",a],[]⟩)) _ _ s
 refine AE (Lx (PySem.F.newCall_set_1 a) (Ad ⟨Ym Zfe _,N7 PySem.F.entry_set_new ?_⟩));rw[UI Zfe _];unfold Builtin.«set.__new__» Builtin.Frozenset.newClass;have m:=sub_set_self;obtain⟨hp,g,d,tk,os⟩:=s;dsimp only
 wp_walk
 refine Kf (Ad ?_);dsimp only;simp only[newObj];refine AE (wpAny_alloc (Ad ?_));exact Ad h
def W8(A:AX)(E:Value→AN→Prop)(s:AN)(l:AB)(items:Array Value)(ns:List Int)(Q:Value→AN→Prop):Prop:=∀(m:A.handled=none)(n:s.heap.IsList l items)(hi:Jp items.toList ns)(hb:ns.length+1<Kd)(h:∀(h':A5)(tk:Nat),Hf w h' s.heap.objs.size ns→(∀b o,s.heap.get? b=some o→h'.get? b=some o)→Q (.ref s.heap.objs.size) {s with heap:=h',toks:=tk}),AR (Ae pg w) A (call (.type "set") [.ref l]) Q E s
def g8:((AX×(Value→AN→Prop))×(AN×AB))×((Array Value×List Int)×(Value→AN→Prop))→Prop:=fun t=>W8 t.1.1.1 t.1.1.2 t.1.2.1 t.1.2.2 t.2.1.1 t.2.1.2 t.2.2
def Ko:=zE g8 ((({},(fun _ _=>True)),({},0)),((#[],[]),(fun _ _=>True)))
def gi:=Ko.1.1.1
def Ue:=Ko.1.1.2
def DN:=Ko.1.2.1
def IB:=Ko.1.2.2
def LL:=Ko.2.1.1
def PJ:=Ko.2.1.2
def rV:=Ko.2.2
theorem pQ:W8 gi Ue DN IB LL PJ rV:=fun hh hl hi hb h=>by
 have a0:LL.size=PJ.length:=by rw[←Gz];exact IntsAre.length hi
 refine B0 ME.mro fun c tl e3=>?_;have d2:=ME.made;have e4:=ME.sub;refine Kg (UJ ?_);show AR _ _ (callAny (.type "set") _) _ _ _;refine Ad ⟨Yn _ (by decide+kernel),N7 PySem.F.entry_type_call ?_⟩;rw[Around.under_plain (weight_type_call_type "set" [.ref IB] []) rfl];have h1:=ME.notType;have h2:=ME.canCreate;have e7:=PySem.F.typeCall_set_1 (.ref IB)
 repeat (any_goals (first|assumption|wp_step))
 refine N4 (sx (.ref IB) (E:=Ue) (Q₁:=fun a5 s₁=>a5=.ref DN.heap.objs.size∧s₁={DN with heap:=DN.heap.push {cls:=.type "set",dict:=none,data:=.set #[] 0 (.fresh 0 0 (not (bt w)))}}) ⟨rfl,rfl⟩) fun r s₁ hr=>?_;cases r with
 |error e=>exact hr
 |ok fl=>
  cases fl with
  |ret a5=>
   refine AL hr fun b5 c2=>?_;subst b5;subst c2;generalize d6:(not (bt w))=led at*;have a3:bt w=true∨led=true:=by cases e5:bt w<;>simp_all
   have hS:(DN.heap.push {cls:=.type "set",dict:=none,data:=.set #[] 0 (.fresh 0 0 led)}).get? DN.heap.objs.size=some {cls:=.type "set",dict:=none,data:=.set #[] 0 (.fresh 0 0 led)}:=B2 _ rfl;have hT:jo {DN with heap:=DN.heap.push {cls:=.type "set",dict:=none,data:=.set #[] 0 (.fresh 0 0 led)}} (.ref DN.heap.objs.size) "set":=⟨_,hS,rfl⟩;have e9:=ME.init.lookup;have e8:=ME.init.bind (.ref DN.heap.objs.size)
   repeat (any_goals (first|assumption|wp_step))
   refine N4 (jp (R:=wants (fun r s₂=>r=.none∧∃h' tk,s₂={DN with heap:=h',toks:=tk}∧Hf w h' DN.heap.objs.size PJ∧
     (∀b o,DN.heap.get? b=some o→h'.get? b=some o)) Ue) ME.init.plain PySem.F.entry_set_init (check_set_init_1 hT ?_)) fun b3 s₂ m=>?_
   ·refine AY hl fun ol b7=>BN b7 fun c3 b4 a7=>AY a7 fun nl b6=>?_;obtain⟨e1,a2,c4,n⟩:=ol;simp only at b4 b6;subst b4;subst b6;have a8:(DN.heap.push {cls:=.type "set",dict:=none,data:=.set #[] 0 (.fresh 0 0 led)}).get? IB=some {cls:=.type "list",dict:=a2,data:=.seq LL nl,slots:=n}:=BC _ c3;have e2:=PySem.F.sub_list_set;have e0:=PySem.F.sub_list_frozenset;have e6:(El "list"==El "dict")=false:=by decide
    have a6:(DN.heap.push {cls:=.type "set",dict:=none,data:=.set #[] 0 (.fresh 0 0 led)}).IsList IB LL:=⟨_,a8,rfl,nl,rfl⟩;unfold Builtin.«set.__init__» noKeywords Builtin.Frozenset.updateFrom;generalize d3:Nq=PI
    wp_walk
    subst d3;refine wpAny_pyIter_list a6 ?_;refine AE (wpAny_runValue ?_);have a9:IB<DN.heap.objs.size:=DP c3;have c5:gi.in1.in1.in1.handled=none:=by simp[hh]
    have b1:IB≠(DN.heap.push {cls:=.type "set",dict:=none,data:=.set #[] 0 (.fresh 0 0 led)}).objs.size:=by
     rw[Jr];exact Bp (H5 a9)
    have c8:DN.heap.objs.size∉[(DN.heap.push {cls:=.type "set",dict:=none,data:=.set #[] 0 (.fresh 0 0 led)}).objs.size,IB]:=by
     rw[Jr];simp only[A7,HY,or_false,not_or];exact⟨Bp (Nv _),HW a9⟩
    have c1:∀(i:Nat)(v:Value),LL[i]? =some v→∃t k,v=.int k t∧PJ[i]? =some k:=fun i v hv=>oY hi i v (by rw[Dx];exact hv);refine mM ((Walks.list c5 _ IB b1 LL).toS) DN.heap.objs.size c8 PJ a0.symm c1 (!AK (Zff (Ac a0) 2) hb) (LL.size-0) 0 _ (!Ep (A9 _) (A9 _)) (Be _)
     ⟨⟨_,B2 _ rfl,rfl,rfl⟩,(a6.push _)⟩ (mI a3 (BC _ hS)) fun s' hm a4=>?_
    obtain⟨h',g',d',d1,d5⟩:=s';have eg:g'=DN.gens:=hm.gens;have ed:d'=DN.drawn:=hm.drawn;have eo:d5=DN.os:=hm.os;subst eg;subst ed;subst eo;show AR _ _ _ _ _ _;refine Ad ?_;show AR _ _ (ret MA) _ _ _;refine Ad ⟨rfl,h',d1,rfl,a4,fun b o e=>?_⟩;have hb:=DP e;have c9:b≠DN.heap.objs.size:=Bp hb;have d4:b≠(DN.heap.push {cls:=.type "set",dict:=none,data:=.set #[] 0 (.fresh 0 0 led)}).objs.size:=by
     rw[Jr];exact Bp (H5 hb)
    exact hm.heap b o (by simp only[A7,HY,or_false,not_or];exact⟨c9,d4⟩) (BC _ (BC _ e))
   ·cases b3 with
    |error e=>exact m
    |ok a1=>
     cases a1 with
     |ret r=>
      refine MN m fun b0 h' tk b2 a4 c6=>?_;subst b0;subst b2
      repeat (any_goals (first|assumption|wp_step))
      exact h _ _ a4 c6
     |_=>exact m.elim
  |_=>exact hr.elim
theorem v4{A E s l items ns Q}:W8 A E s l items ns Q:=@zF _ g8 _ @pQ (((A,E),(s,l)),((items,ns),Q))
theorem eQ:Manifest.owners.lookup (String.ofList ['r','o','t','a','r','e','t','i','_','t','e','s'].reverse)=some Manifest.sig_set_iterator:=∅
theorem Mk:N5 "set_iterator" "__next__" "set_iterator.__next__":=
 .of (owner:="set_iterator") (n:="__next__") (by rw[Yo,Yp];kernel_rfl) (by decide+kernel) (by decide+kernel) (by decide+kernel)
  (by first|exact .inl (by decide+kernel)|exact .inr (by decide+kernel)) (by rw[Yq];kernel_rfl)
theorem ZJ:entryFor table "set_iterator.__next__"=some Builtin.«set_iterator.__next__»:=entryFor_of_tree ∅
theorem gI(a:Value):Qb "set_iterator.__next__" ⟨[a],[]⟩:=by
 unfold Qb;rw[signature?_of (id:="set_iterator.__next__") (n:=['_','_','t','x','e','n','_','_']) (o:=['r','o','t','a','r','e','t','i','_','t','e','s']) ∅ eQ];kernel_rfl
theorem qF:entryFor table "set.__iter__"=some Builtin.«frozenset.__iter__»:=
 entryFor_alias (id':="frozenset.__iter__") ∅ (by first|rfl|decide+kernel|(unfold String.splitOn;simp+decide [Zfg])) (by decide+kernel) ∅
theorem ga:N5 "set_iterator" "__iter__" "set_iterator.__iter__":=
 .of (owner:="set_iterator") (n:="__iter__") (by rw[Yo,Yp];kernel_rfl) (by decide+kernel) (by decide+kernel) (by decide+kernel)
  (by first|exact .inl (by decide+kernel)|exact .inr (by decide+kernel)) (by rw[Yq];kernel_rfl)
theorem Zb0(a:Value):Qb "set_iterator.__iter__" ⟨[a],[]⟩:=by
 unfold Qb;rw[signature?_of (id:="set_iterator.__iter__") (n:=['_','_','r','e','t','i','_','_']) (o:=['r','o','t','a','r','e','t','i','_','t','e','s']) ∅ eQ];kernel_rfl
theorem pF:entryFor table "set_iterator.__iter__"=some Builtin.«dict_keyiterator.__iter__»:=
 entryFor_alias (id':="dict_keyiterator.__iter__") ∅ (by first|rfl|decide+kernel|(unfold String.splitOn;simp+decide [Zfg])) (by decide+kernel) ∅
theorem Zf{l:List α}:∀{i:Nat}(h:i<l.length),(l[i]::l.eraseIdx i).Perm l:=by
 induction l with
 |nil=>intro i h;exact absurd h (Lq _)
 |cons x l m=>
  intro i h;cases i with
  |zero=>exact .refl _
  |succ i=>exact(jq _ _ _).trans ((m (YG h)).cons x)
theorem vO(hn:0<n)(h:∀i d,i<n→Q i {s with drawn:=d}):AR (Ae pg w) A (choose m n) Q E s:=fun Γ p zz=>by
 show Sem.wp _ Γ (.choose m n .pure) _ _ p s;rw[Sem.wp_choose];exact⟨HW hn,by rw[Sem.wp_pure];exact h _ _ (Nat.mod_lt _ hn)⟩
theorem yr(n:Nat):∀(xs:List α){s:AN}{Q:List α→AN→Prop},xs.length≤n→(∀ys d,ys.Perm xs→Q ys {s with drawn:=d})→AR (Ae pg w) A (drawOrder n xs) Q E s:=by
 induction n with
 |zero=>
  intro xs s Q m h;cases Lp (Nat.le_zero.mp m);exact Ad (h [] s.drawn .nil)
 |succ n ih=>
  intro xs s Q m h;cases xs with
  |nil=>exact Ad (h [] s.drawn .nil)
  |cons x xs=>
   change AR _ _ (choose .order (x::xs).length>>=fun i=>match(x::xs)[i]? with|some y=>drawOrder n ((x::xs).eraseIdx i)>>=fun l=>pure (y::l)|none=>unsupported "internal:drawOrder") _ _ _
   refine AE (vO (!Cz _) fun i d hi=>?_);rw[Dy hi];refine AE (ih ((x::xs).eraseIdx i) (by rw[Zfh,if_pos hi];exact Nat.le_of_succ_le_succ m) fun ys d' hp=>Ad (h _ d' ?_));exact(hp.cons _).trans (Zf hi)
theorem qe(f:Nat→Nat)(n:Nat):∀(k:Nat)(left:List α)(out:Array α),left.length≤n→(jr f n k left out).toList.Perm (out.toList++left):=by
 induction n with
 |zero=>
  intro k left out h;rw[Lp (Nat.le_zero.mp h),T8];exact .refl _
 |succ n ih=>
  intro k left out h;change(match left[f k%left.length]? with|some x=>jr f n (k+1) (left.eraseIdx (f k%left.length)) (out.push x)|none=>out).toList.Perm _
  cases hx:left[f k%left.length]? with
  |some x=>
   have m:=(BY.mp hx);refine AY m fun m e=>?_;have:=ih (k+1) (left.eraseIdx (f k%left.length)) (out.push x) (by rw[Zfh,if_pos m];exact uZ h);refine this.trans ?_;rw[QT,Yr];refine List.Perm.append_left _ ?_;rw[←e];exact Zf m
  |none=>
   cases left with
   |nil=>rw[T8]
   |cons a l=>exact Bh (((Dy (Nat.mod_lt _ (!Cz _))).symm.trans hx))
theorem sS(f:Nat→Nat)(xs:Array α):(UK f xs).toList.Perm xs.toList:=by
 have:=qe f xs.size 0 xs.toList #[] (!A9 _);show(jr f xs.size 0 xs.toList #[]).toList.Perm _;simpa using this
def R5(w:AD)(h:A5)(a:AB)(es:Array (Int×Value))(ep:Nat)(t:SetTable)(tp:Option AB)(a1:List Value)(i:Nat)(first:Value):Prop:=
 (bt w=true∧a1=(UK (w.params.setOrder a ep) es).toList.map (·.2)∧first=Bm 0)∨
 (bt w=false∧(not (t.plain)&&decide (es.size>1))=false∧a1=es.toList.map (·.2)∧∃a0:Nat,first=Bm a0∧Er t.place a0=i)∨
 (∃(p:AB)(m:List Nat),tp=some p∧first=.ref p∧h.get? p=some {cls:=.type "tuple",data:=.seq (m.map fun(n:Nat)=>Bm n).toArray}∧m.Perm (B6 es.size)∧a1=m.map fun n=>((es[n]?).map (·.2)).getD .none)
structure Hr(w:AD)(h:A5)(I a:AB)(es:Array (Int×Value))(ep:Nat)(t:SetTable)(tp:Option AB)(ord:List Value)(i:Nat):Prop where
 set:h.get? a=some {cls:=.type "set",dict:=none,data:=.set es ep t,slots:=#[]}
 it:∃first,h.get? I=some {cls:=.type "set_iterator",data:=.fields #[first,Bm i,.ref a,Bm es.size,Bm ep]}∧R5 w h a es ep t tp ord i first
 ne:a≠I∧∀p,tp=some p→p≠I
theorem Hr.typeIs{es ep t tp m i}(x:Hr w s.heap I a es ep t tp m i):s.TypeIs (.ref I) "set_iterator":=AI x.it fun zz n zz=>⟨_,n,rfl⟩
theorem Hr.frame{h h':A5}{I a:AB}{es ep t tp a0 i}(x:Hr w h I a es ep t tp a0 i)(k:∀b∈I::a::tp.toList,∀o,h.get? b=some o→h'.get? b=some o):Hr w h' I a es ep t tp a0 i:=by
 refine AI x.it fun first ho m=>?_
 refine⟨k a (by simp) _ x.set,⟨first,k I (!Dq) _ ho,?_⟩,x.ne⟩
 rcases m with m|m|⟨p,n,e,m1,m2,m3⟩
 ·exact .inl m
 ·exact .inr (.inl m)
 ·exact .inr (.inr ⟨p,n,e,m1,k p (by simp[e]) _ m2,m3⟩)
theorem xM(ho:s.heap.get? a=some {cls:=.type "set",dict:=none,data:=.set es ep t,slots:=#[]})(D:Gj w es t S n)
  (h:∀I h' d tp a1,Hr w h' I a es ep t tp a1 0→a1.Perm (es.toList.map (·.2))→(∀b∈I::tp.toList,s.heap.get? b=none)→(∀b o,s.heap.get? b=some o→h'.get? b=some o)→Q (.ref I) {s with heap:=h',drawn:=d}):
  AR (Ae pg w) A (Nq (.ref a)) Q E s:=by
 have hT:s.TypeIs (.ref a) "set":=⟨_,ho,rfl⟩;have a2:Er t.place 0=0:=by
  refine BN (Wo (j:=0) D.tab.asc) fun h1 h2 zz=>?_;cases q:Er t.place 0 with
  |zero=>rfl
  |succ m=>
   have:0<t.place.size:=by exact BS xJ h1 q
   exact absurd (h2 0 _ (!Al qv q) (Ki this)) (Lq _)
 refine wpAny_pyIter_slot hT Zfi (HT Zfi hT qF ?_ (PySem.F.args_set_iter_1 _));show AR _ _ (do
  let n ←Zfj a;let first ←if ←setDrawn a then newTuple ((←drawOrder n (B6 n)).map fun(i:Nat)=>Bm i)else pure (Bm 0)
  ret (←newFields "set_iterator" [first,Bm 0,.ref a,Bm n,Bm (←setEpoch a)])) _ _ s
 unfold Zfj setDrawn setsByText;refine AE (AE (jt ho rfl D.fits (Ad ?_)));refine AE (AE (QZ ho rfl D.fits (AE (AE (Kf (Ad (Ad ?_)))))));change AR _ _ (if(not (bt w)&&(not (t.plain)&&decide (es.size>1)))=true then _ else _) _ _ s;have fin:∀(s₁:AN)(first:Value)(tp:Option AB)(a1:List Value),s₁.heap.get? a=some {cls:=.type "set",dict:=none,data:=.set es ep t,slots:=#[]}→(∀h',(∀b o,s₁.heap.get? b=some o→h'.get? b=some o)→R5 w h' a es ep t tp a1 0 first)→
   (∀p,tp=some p→p<s₁.heap.objs.size∧s.heap.get? p=none)→a1.Perm (es.toList.map (·.2))→(∀b o,s.heap.get? b=some o→s₁.heap.get? b=some o)→(∃d,s₁={s with heap:=s₁.heap,drawn:=d})→
   AR (Ae pg w) A.in1 (do ret (←newFields "set_iterator" [first,Bm 0,.ref a,Bm es.size,Bm (←setEpoch a)])) (fun f s'=>∃v,f=.done (.ret v)∧∃T' r,s'.TypeIs v T'∧Nz (.type T') "__next__"=pure (some r)∧Q v s') E s₁:=by
  intro s₁ first tp a1 a0 hm a4 a5 hk ⟨d,hd⟩
  refine AE (wpAny_setEpoch_of a0 rfl D.fits ?_);refine AE (Nt (Ad ⟨_,rfl,"set_iterator",_,⟨_,B2 _ rfl,rfl⟩,Mk.lookup,?_⟩));have e:s₁={s with heap:=s₁.heap,drawn:=d}:=hd;have hI:s₁.heap.get? s₁.heap.objs.size=none:=Im (A9 _);have k1:∀b o,s₁.heap.get? b=some o→(s₁.heap.push {cls:=.type "set_iterator",data:=.fields #[first,Bm 0,.ref a,Bm es.size,Bm ep]}).get? b=some o:=fun b o e=>BC _ e
  have:=h s₁.heap.objs.size (s₁.heap.push {cls:=.type "set_iterator",data:=.fields #[first,Bm 0,.ref a,Bm es.size,Bm ep]}) d tp a1
   ⟨k1 _ _ a0,⟨first,B2 _ rfl,hm _ k1⟩,⟨(fun e=>by rw[e,hI]at a0;exact As a0),(fun p hp e=>Bp (a4 p hp).1 e)⟩⟩ a5 (fun b hb=>?_) fun b o e=>k1 _ _ (hk _ _ e)
  ·rw[e];exact this
  ·rcases A7.mp hb with rfl|hb
   ·cases q:s.heap.get? s₁.heap.objs.size with
    |none=>rfl
    |some o=>exact Bh (((hk _ _ q).symm.trans hI))
   ·exact(a4 b (by simpa using hb)).2
 cases hm:(not (bt w)&&(not (t.plain)&&decide (es.size>1)))with
 |false=>
  rw[if_neg Gx];refine AE (Ad ?_);cases hb:bt w with
  |true=>exact fin s (Bm 0) none _ ho (fun h' zz=>.inl ⟨hb,rfl,rfl⟩) (fun p e=>!As e) ((sS _ es).map _) (fun zz zz e=>e) ⟨s.drawn,rfl⟩
  |false=>
   rw[hb]at hm;exact fin s (Bm 0) none _ ho (fun h' zz=>.inr (.inl ⟨hb,by simpa using hm,rfl,0,rfl,a2⟩)) (fun p e=>!As e) (.refl _) (fun zz zz e=>e) ⟨s.drawn,rfl⟩
 |true=>
  rw[if_pos rfl];refine AE (yr es.size (B6 es.size) (by simp) fun ys d hp=>?_);have hl:ys.length=es.size:=by rw[hp.length_eq,MF]
  refine AE (wpAny_newTuple ?_ (by rw[AU,hl];exact jk (by rw[D.sz];exact D.lt)));have a3:∀b o,s.heap.get? b=some o→(s.heap.push {cls:=.type "tuple",data:=.seq (ys.map fun(i:Nat)=>Bm i).toArray}).get? b=some o:=fun b o e=>BC _ e;refine fin {s with heap:=s.heap.push {cls:=.type "tuple",data:=.seq (ys.map fun(i:Nat)=>Bm i).toArray},drawn:=d} (.ref s.heap.objs.size) (some s.heap.objs.size) _ (a3 _ _ ho)
   (fun h' k=>.inr (.inr ⟨_,ys,rfl,rfl,k _ _ (B2 _ rfl),hp,rfl⟩)) (fun p e=>by obtain rfl:=Ao e;exact⟨by show _<(s.heap.push _).objs.size;rw[Jr];exact A9 _,Im (A9 _)⟩) ?_ a3 ⟨d,rfl⟩
  refine(hp.map _).trans (List.Perm.of_eq ?_);refine List.ext_getElem (by simp) fun i h1 h2=>?_;simp at h1;simp[h1]
theorem gN(hb:bt w=true)(n:s.heap.get? a=some {cls:=.type "set",dict:=none,data:=.set es ep t,slots:=#[]})(hf:t.fits es.size=true)
  (h:Q (((UK (w.params.setOrder a ep) es)[i]?).map fun e=>(e.2,m)) s):AR (Ae pg w) A (setNext a m i ep) Q E s:=by
 unfold setNext setWalk setsByText;refine AE (QZ n rfl hf (AE (AE (Kf (Ad ?_)))));change AR _ _ (if bt w=true then _ else _) _ _ s;rw[if_pos hb];have:(ep != ep)=false:=by simp
 simp -iota only[this,HU,if_false];refine AE (AE (QZ n rfl hf (AE (AE (Kf (Ad ?_))))));change AR _ _ (if bt w=true then _ else _) _ _ s;rw[if_pos hb];exact AE (Kf (Ad (Ad h)))
set_option backward.match.sparseCases true in
theorem bn(hb:bt w=false)(hl:t.led=true)(hp:(not (t.plain)&&decide (es.size>1))=false)(n:s.heap.get? a=some {cls:=.type "set",dict:=none,data:=.set es ep t,slots:=#[]})(hf:t.fits es.size=true)
  (h:Q (match es[Er t.place m]?,t.place[Er t.place m]? with|some (_,x),some j=>some (x,j+1)|_,_=>none) s):AR (Ae pg w) A (setNext a m i ep) Q E s:=by
 unfold setNext setsByText;refine AE (QZ n rfl hf (AE (AE (Kf (Ad ?_)))));change AR _ _ (if bt w=true then _ else _) _ _ s;rw[if_neg (by rw[hb];exact Gx)];change AR _ _ (if(not (t.plain)&&decide (es.size>1))=true then _ else _) _ _ s;rw[if_neg (by rw[hp];exact Gx)];change AR _ _ ((if(not (t.led)&& not (es.isEmpty))=true then _ else _)>>=_) _ _ s;rw[hl,if_neg (by simp)];exact AE (Ad (Ad h))
theorem PQ{h:A5}{I:AB}{o:C6}{vs:Array Value}{i:Nat}{x:Value}(m:h.get? I=some o)(hd:o.data=.fields vs)(n:o={cls:=.type "set_iterator",data:=.fields vs}):
  (h.update I (Obj.mapFields (·.setIfInBounds i x))).get? I=some {cls:=.type "set_iterator",data:=.fields (vs.setIfInBounds i x)}:=by
 subst n;exact GY _ m rfl
def Um(A:AX)(E:Value→AN→Prop)(s:AN)(Q:Option Value→AN→Prop):Prop:=∀{es:Array (Int×Value)}{t:SetTable}{S:Int→Bool}{n:Nat}{I:AB}{a:AB}{ep:Nat}{tp:Option AB}{m:List Value}{i:Nat}{v:Value}(D:Gj w es t S n)(x:Hr w s.heap I a es ep t tp m i)(hv:m[i]? =some v)(hQ:∀h',Hr w h' I a es ep t tp m (i+1)→FH I s.heap h'→Q (some v) {s with heap:=h'}),AR (Ae pg w) A (Jq (.ref I)) Q E s
def gn:(AX×(Value→AN→Prop))×(AN×(Option Value→AN→Prop))→Prop:=fun t=>Um t.1.1 t.1.2 t.2.1 t.2.2
def Qw:=zE gn (({},(fun _ _=>True)),({},(fun _ _=>True)))
def Rq:=Qw.1.1
def UZ:=Qw.1.2
def Mz:=Qw.2.1
def Sf:=Qw.2.2
theorem rP:Um Rq UZ Mz Sf:=fun{es}{t}{S}{n}{I}{a}{ep}{tp}{a6}{i}{v} D x hv hQ=>by
 refine AI x.it fun first ho m=>?_
 have hs:=x.set;unfold Jq;refine AE (ju (jW (name:=QU "__next__") x.typeIs Mk (HT Mk x.typeIs ZJ ?_ (gI _))));show AR _ _ (fieldsOf (.ref I)>>=_) _ _ Mz;refine AE (wpAny_fieldsOf ho rfl ?_);dsimp -iota only[Bm];refine AE (jt hs rfl D.fits ?_);have c4:(((es.size:Nat):Int) != (es.size:Nat))=false:=by simp
 rw[c4];simp -iota only[HU,if_false];have b4:∀{h':A5},FH I Mz.heap h'→∀b∈a::tp.toList,∀o,Mz.heap.get? b=some o→h'.get? b=some o:=fun{h'} sb b hb o e=>by
  refine(sb.2 b fun q=>?_).trans e;subst q;rcases A7.mp hb with q|q
  ·exact x.ne.1 q.symm
  ·exact x.ne.2 b (by simpa using q) rfl
 have a4:∀{h':A5}{a0:Value},FH I Mz.heap h'→h'.get? I=some {cls:=.type "set_iterator",data:=.fields #[a0,Bm (i+1:Nat),.ref a,Bm es.size,Bm ep]}→R5 w h' a es ep t tp a6 (i+1) a0→Hr w h' I a es ep t tp a6 (i+1):=
  fun{h' a0} sb e m'=>⟨b4 sb a (!Dq) _ hs,⟨a0,e,m'⟩,x.ne⟩
 have a5:∀(nx:Nat),(∀h',R5 w h' a es ep t tp a6 (i+1) (Bm nx))→AR (Ae pg w) Rq.in1 (do
    setField (Ft I) 0 (N6 (nx:Nat) 0)
    setField (Ft I) 1 (N6 ((i:Nat)+1) 0)
    ret v) (fun fin s'=>∃v,fin=Fin.done (Flow.ret v)∧AR (Ae pg w) Rq (pure (some v)) Sf UZ s') (fun e s'=>AR (Ae pg w) Rq (do
     let __do_lift ←UL e (El "StopIteration")
     if __do_lift=true then pure none else throw e) Sf UZ s') Mz:=fun nx hm=>by
  refine AE (MG ho rfl (!Cz _) (AE (MG (PQ (vs:=#[first,Bm i,.ref a,Bm es.size,Bm ep]) ho rfl rfl) rfl (!ld rfl) (Ad ⟨v,rfl,Ad (hQ _ (a4 ?_ ?_ (hm _)) ?_)⟩))))
  ·exact(Eo ..).trans (Eo ..)
  ·have:=PQ (i:=1) (x:=N6 ((i:Nat)+1) 0) (PQ (i:=0) (x:=N6 (nx:Nat) 0) (vs:=#[first,Bm i,.ref a,Bm es.size,Bm ep]) ho rfl rfl) rfl rfl
   exact this
  ·exact(Eo ..).trans (Eo ..)
 rcases m with⟨hb,a3,rfl⟩|⟨hb,hp,a3,c5,rfl,c2⟩|⟨p,a1,e,rfl,a8,a2,a3⟩
 ·dsimp -iota only[Bm];have b6:((i:Nat):Int).toNat=i:=EW i;have c3:((ep:Nat):Int).toNat=ep:=EW ep;rw[b6,c3];refine AE (gN hb hs D.fits ?_);subst a3;rw[CK,Dx]at hv;cases q:(UK (w.params.setOrder a ep) es)[i]? with
  |none=>rw[q]at hv;cases hv
  |some e=>
   rw[q]at hv;cases hv;exact a5 0 fun h'=>.inl ⟨hb,rfl,rfl⟩
 ·dsimp -iota only[Bm];have a9:t.led=true:=D.tab.led.elim (fun q=>nomatch (hb.symm.trans q)) id;refine AE (bn hb a9 hp hs D.fits ?_);subst a3;rw[CK,Dx]at hv;rw[EW,c2];have b0:t.place.size=es.size:=by have:=D.fits;simp -iota only[SetTable.fits,Fq,beq_iff_eq]at this;exact this.1
  cases q:es[i]? with
  |none=>rw[q]at hv;cases hv
  |some e=>
   rw[q]at hv;cases hv;have hi:=(Ny.mp q).1;have hj:t.place[i]? =some t.place[i]:=Ki (!AK hi (Ac b0.symm));rw[hj];refine a5 (t.place[i]+1) fun h'=>.inr (.inl ⟨hb,hp,rfl,_,rfl,?_⟩);refine BN (Wo (j:=t.place[i]+1) D.tab.asc) fun b1 b2 b3=>?_;generalize hB:Er t.place (t.place[i]+1)=B at b1 b2 b3 ⊢;have h1:¬B≤i:=fun q=>by have:=b3 i _ q hj;exact EP _ (AK (A9 _) this)
   have h2:¬i+1<B:=fun q=>by
    have a7:i+1<t.place.size:=by exact AK q b1
    have:=b2 (i+1) _ q (Ki a7);have:=D.tab.asc.lt (Nv i) hj (Ki a7);exact Hi sy b0 hi a7 (by assumption) this
   exact Ep (EU h2) (Nat.lt_of_not_le h1)
 ·dsimp only;refine AE (jZ a8 rfl ?_);subst a3;rw[CK]at hv;rw[EW];cases q:a1[i]? with
  |none=>rw[q]at hv;cases hv
  |some k=>
   rw[q]at hv;have hk:k<es.size:=by have:=a2.mem_iff.mp (DE q);simpa using this
   have b5:es[k]? =some es[k]:=Ki hk;have c1:v=es[k].2:=by simp[b5]at hv;exact hv.symm
   have b7:(a1.map fun(n:Nat)=>Bm n).toArray[i]? =some (.int k 0):=by simp[q,Bm]
   dsimp only;rw[b7];dsimp only;unfold setNextDrawn;refine AE (AE (QZ hs rfl D.fits ?_));have he:(((ep:Nat):Int).toNat != ((ep:Nat):Int).toNat)=false:=by simp
   dsimp only;rw[EW,EW];have he:(ep != ep)=false:=by simp
   rw[he];simp -iota only[HU,if_false];rw[b5];refine Ad ?_;refine AE (MG ho rfl (!ld rfl) (Ad ⟨_,rfl,Ad ?_⟩));show Sf (some es[k].2) _;rw[←c1];refine hQ _ (a4 (Eo ..) (PQ (i:=1) (x:=N6 ((i:Nat)+1) 0) (vs:=#[.ref p,Bm i,.ref a,Bm es.size,Bm ep]) ho rfl rfl) (.inr (.inr ⟨p,a1,e,rfl,b4 (Eo ..) p (by simp[e]) _ a8,a2,rfl⟩))) (Eo ..)
theorem qL{A E s Q}:Um A E s Q:=@zF _ gn _ @rP ((A,E),(s,Q))
theorem WZ{P:Fin→AN→Prop}{Q:Option Value→AN→Prop}(n:A.handled=none)(hQ:∀h',(∀b o,s.heap.get? b=some o→h'.get? b=some o)→Q none {s with heap:=h'}):
  AR (Ae pg w) A.in1 (do
   let x ←newExc (.type "StopIteration") []
   raiseNew x) P (fun e s'=>AR (Ae pg w) A (do
     let b ←UL e (El "StopIteration")
     if b=true then pure none else throw e) Q E s') s:=by
 refine AE ?_;simp -iota only[newExc,newTuple];refine AE (Nt ?_ (by size_fits));refine AE (m:=firstArgMember _ _) (Lx (a:=MA) (by first|rfl|(simp -iota only[firstArgMember];rfl)) ?_)
 refine Nt ?_ (by size_fits);simp -iota only[raiseNew];refine AE (wpAny_handled ?_);rw[show A.in1.handled=none from n];refine AE (Ad (wpAny_throw ?_));refine AE (wpAny_isInstance (T:="StopIteration") (b:=true) ⟨_,B2 _ rfl,rfl⟩ isSubtype_stop ?_);exact Ad (hQ _ fun b o e=>BC _ (BC _ e))
def Ul(A:AX)(E:Value→AN→Prop)(s:AN)(es:Array (Int×Value))(t:SetTable)(n:Nat)(I:AB)(a:AB)(ep:Nat)(tp:Option AB)(i:Nat)(Q:Option Value→AN→Prop):Prop:=∀{S:Int→Bool}{m:List Value}(hh:A.handled=none)(D:Gj w es t S n)(x:Hr w s.heap I a es ep t tp m i)(hv:m[i]? =none)(hQ:∀h',i5 I s.heap h'→Q none {s with heap:=h'}),AR (Ae pg w) A (Jq (.ref I)) Q E s
def dB:(((AX×(Value→AN→Prop))×AN)×(((Array (Int×Value))×SetTable)×Nat))×(((AB×AB)×Nat)×((Option AB×Nat)×(Option Value→AN→Prop)))→Prop:=fun t=>Ul t.1.1.1.1 t.1.1.1.2 t.1.1.2 t.1.2.1.1 t.1.2.1.2 t.1.2.2 t.2.1.1.1 t.2.1.1.2 t.2.1.2 t.2.2.1.1 t.2.2.1.2 t.2.2.2
def HH:=zE dB (((({},(fun _ _=>True)),{}),((#[],BV),0)),(((0,0),0),((none,0),(fun _ _=>True))))
def ua:=HH.1.1.1.1
def mj:=HH.1.1.1.2
def Sv:=HH.1.1.2
def Me:=HH.1.2.1.1
def gQ:=HH.1.2.1.2
def Wp:=HH.1.2.2
def SP:=HH.2.1.1.1
def WK:=HH.2.1.1.2
def M8:=HH.2.1.2
def tG:=HH.2.2.1.1
def I3:=HH.2.2.1.2
def Zb4:=HH.2.2.2
theorem ui:Ul ua mj Sv Me gQ Wp SP WK M8 tG I3 Zb4:=fun{S}{b0} hh D x hv hQ=>by
 refine AI x.it fun first ho m=>?_
 have hs:=x.set;unfold Jq;refine AE (ju (jW (name:=QU "__next__") x.typeIs Mk (HT Mk x.typeIs ZJ ?_ (gI _))));show AR _ _ (fieldsOf (.ref SP)>>=_) _ _ Sv;refine AE (wpAny_fieldsOf ho rfl ?_);dsimp -iota only[Bm];refine AE (jt hs rfl D.fits ?_);have a8:(((Me.size:Nat):Int) != (Me.size:Nat))=false:=by simp
 rw[a8];simp -iota only[HU,if_false];have a1:((I3:Nat):Int).toNat=I3:=EW I3;have a7:((M8:Nat):Int).toNat=M8:=EW M8;have ext:∀{h₁ h':A5},FH SP Sv.heap h₁→(∀b o,h₁.get? b=some o→h'.get? b=some o)→i5 SP Sv.heap h':=fun{h₁ h'} sb k b o hb e=>k b o ((sb.2 b hb).trans e);rcases m with⟨hb,a0,rfl⟩|⟨hb,hp,a0,a9,rfl,a6⟩|⟨p,n,e,rfl,a4,a5,a0⟩
 ·dsimp -iota only[Bm];rw[a1,a7];refine AE (gN hb hs D.fits ?_);subst a0;rw[CK,Dx]at hv;cases q:(UK (w.params.setOrder WK M8) Me)[I3]? with
  |some e=>rw[q]at hv;cases hv
  |none=>exact AE (MG ho rfl (!ld rfl) (WZ hh fun h' k=>hQ h' (ext (Eo ..) k)))
 ·dsimp -iota only[Bm];have a2:gQ.led=true:=by
   rcases D.tab.led with q|q
   ·exact(nomatch ((hb.symm.trans q)))
   ·exact q
  refine AE (bn hb a2 hp hs D.fits ?_);subst a0;rw[CK,Dx]at hv;rw[EW,a6];cases q:Me[I3]? with
  |some e=>rw[q]at hv;cases hv
  |none=>exact AE (MG ho rfl (!ld rfl) (WZ hh fun h' k=>hQ h' (ext (Eo ..) k)))
 ·dsimp only;refine AE (jZ a4 rfl ?_);subst a0;rw[CK]at hv;rw[a1];cases q:n[I3]? with
  |some k=>rw[q]at hv;cases hv
  |none=>
   have a3:(n.map fun(Wp:Nat)=>Bm Wp).toArray[I3]? =none:=by simp[q]
   dsimp only;rw[a3];dsimp only;exact AE (MG ho rfl (!Cz _) (AE (MG (PQ (vs:=#[.ref p,Bm I3,.ref WK,Bm Me.size,Bm M8]) ho rfl rfl) rfl (!ld rfl) (WZ hh fun h' k=>hQ h' (ext ((Eo ..).trans (Eo ..)) k)))))
theorem mv{A E s es t n I a ep tp i Q}:Ul A E s es t n I a ep tp i Q:=@zF _ dB _ @ui ((((A,E),s),((es,t),n)),(((I,a),ep),((tp,i),Q)))
theorem li(hh:A.handled=none){I a:AB}{es:Array (Int×Value)}{ep:Nat}{t:SetTable}{S:Int→Bool}{n:Nat}{tp:Option AB}{m:List Value}(D:Gj w es t S n):
  Walks pg w A I (I::a::tp.toList) [I] m.length (fun i v=>m[i]? =some v) (fun i h=>Hr w h I a es ep t tp m i) where
 sub:=fun b hb=>by rw[Ap]at hb;subst hb;exact Dq
 frame:=fun i h h' st k=>st.frame k
 item:=fun i s Q E hi st hQ=>by
  have hv:m[i]? =some m[i]:=Dy hi;exact qL D st hv fun h' a0 sb=>hQ _ h' s.toks hv a0 (fun b o hb e=>(sb.2 b (by simpa using hb)).trans e)
 done:=fun s Q E st hQ=>mv hh D st (Lz (A9 _)) fun h' eb=>hQ h' s.toks (fun b o hb e=>eb b o (by simpa using hb) e)
 self:=fun i s Q E st hQ=>by
  have hT:s.TypeIs (.ref I) "set_iterator":=st.typeIs;refine wpAny_pyIter_slot hT ga (HT ga hT pF ?_ (Zb0 _));show AR _ _ (ret (.ref I)) _ _ s;exact Ad ⟨_,rfl,"set_iterator",_,hT,Mk.lookup,hQ⟩
theorem tv:Nz (.type "set") "__len__"=pure (some (.builtin "set.__len__")):=by rw[Yo,Yp];kernel_rfl
theorem nv(m:s.TypeIs (.ref a) "set")(h:Q false s):AR (Ae pg w) A (Zfk (.ref a)) Q E s:=by
 unfold Zfk;refine AE (UB m tv ?_);have hs:splitId "set.__len__"=some ("set","__len__"):=by decide+kernel
 generalize splitId "set.__len__"=r at hs ⊢;subst hs;refine AE (wpAny_isInstance m sub_set_self ?_);rw[if_neg ⋯];refine AE (Ye m ?_);exact Ad h
def XH(A:AX)(E:Value→AN→Prop)(s:AN)(Q:List Value→AN→Prop):Prop:=∀{a:AB}{es:Array (Int×Value)}{ep:Nat}{t:SetTable}{S:Int→Bool}{n:Nat}(hh:A.handled=none)(ho:s.heap.get? a=some {cls:=.type "set",dict:=none,data:=.set es ep t,slots:=#[]})(D:Gj w es t S n)(m:∀vs h' d tk,vs.Perm (es.toList.map (·.2))→(∀b o,s.heap.get? b=some o→h'.get? b=some o)→Q vs {s with heap:=h',drawn:=d,toks:=tk}),AR (Ae pg w) A (collect (.ref a)) Q E s
def b9:(AX×(Value→AN→Prop))×(AN×(List Value→AN→Prop))→Prop:=fun t=>XH t.1.1 t.1.2 t.2.1 t.2.2
def Sb:=zE b9 (({},(fun _ _=>True)),({},(fun _ _=>True)))
def KG:=Sb.1.1
def Za0:=Sb.1.2
def DH:=Sb.2.1
def be:=Sb.2.2
theorem mE:XH KG Za0 DH be:=fun{a}{es}{ep}{t}{S}{n} hh ho D hQ=>by
 have b4:a<DH.heap.objs.size:=DP ho;unfold collect;refine AE (wpAny_runValue (N7 PySem.F.entry_proto_collect ?_));rw[UI PySem.F.plain_proto_collect _];show AR _ KG.in1 (Tz []>>=fun l=>again (.builtin "list.__iadd__" ⟨[l,.ref a],[]⟩)) _ _ DH;refine AE (Nt ?_);refine Ad ⟨Ym Zfl _,N7 PySem.F.entry_list_iadd ?_⟩;rw[UI Zfl _];have a2:(DH.heap.push {cls:=.type "list",data:=.seq ([]:List Value).toArray}).get? a=_:=BC _ ho;have a1:(DH.heap.push {cls:=.type "list",data:=.seq ([]:List Value).toArray}).get? DH.heap.objs.size=some {cls:=.type "list",data:=.seq ([]:List Value).toArray}:=B2 _ rfl;show AR _ KG.in1 (Zfm (.ref DH.heap.objs.size) (.ref a) (.ref DH.heap.objs.size)) _ _ _;unfold Zfm;have a9:jo {DH with heap:=DH.heap.push {cls:=.type "list",data:=.seq ([]:List Value).toArray}} (.ref a) "set":=⟨_,a2,rfl⟩;refine AE (Ye a9 ?_);have h1:Zfn (.ref DH.heap.objs.size) (.ref a)=false:=by simp[Zfn,HW b4]
 have h2:(El "set"==El "list")=false:=by decide
 have h3:(El "set"==El "tuple")=false:=by decide
 simp -iota only[h1,h2,h3,jv,HU,if_false];refine AE (xM a2 D fun I h2 d tp a3 st a7 b1 b2=>?_);have a8:jo ({DH with heap:=h2,drawn:=d}:AN) (.ref a) "set":=⟨_,b2 _ _ a2,rfl⟩;have a4:=b2 _ _ a1;refine AE (CI (nv a8 ?_));have b5:DH.heap.objs.size∉I::a::tp.toList:=fun m=>by
  rcases A7.mp m with e|m
  ·have:=b1 I Dq;rw[←e,a1]at this;exact Bh this
  ·rcases A7.mp m with e|m
   ·exact HW b4 e
   ·have:=b1 _ (Tw _ m);exact Bh ((a1.symm.trans this))
 have fin:∀(h3:A5)(c:Nat),(∀b o,b≠DH.heap.objs.size→h2.get? b=some o→h3.get? b=some o)→h3.get? DH.heap.objs.size=some {cls:=.type "list",data:=.seq #[] c}→
   FI (Ae pg w) KG (.builtin "list.extend.loop" ⟨[.ref DH.heap.objs.size,.ref I,.ref DH.heap.objs.size],[]⟩) (fun r s'=>match r with
    |.ok (.ret v)=>v=.ref DH.heap.objs.size∧∃a0 c',s'.heap.get? DH.heap.objs.size=some {cls:=.type "list",data:=.seq a0 c'}∧be a0.toList s'
    |_=>False) {DH with heap:=h3,drawn:=d}:=by
  intro h3 c k3 b7;have c1:=st.frame (h':=h3) fun b hb o e=>k3 b o (fun e=>b5 (e▸hb)) e;have hn:a3.length≤Nu:=by rw[a7.length_eq,AU,Gz];exact jk (by rw[D.sz];exact D.lt)
  refine codeAny_extend_loopS (A:=KG) ((li (A:=KG.in1) (by simp[hh]) (tp:=tp) D).toS) hn DH.heap.objs.size b5 _ a3.length 0 _ #[] c rfl (Be _) c1 b7 (ItemsOf.nil _) fun s' a0 c' hm b0 a6=>⟨rfl,a0,c',b0,?_⟩;obtain⟨h',g',d',c4,c3⟩:=s';have eg:g'=DH.gens:=hm.gens;have ed:d'=d:=hm.drawn;have eo:c3=DH.os:=hm.os;subst eg;subst ed;subst eo;have hv:a0.toList=a3:=by
   refine UM fun j=>?_;by_cases hj:j<a3.length
   ·have:j<a0.size:=by rw[a6.1];exact hj
    have e1:a0[j]? =some a0[j]:=Ki this;rw[Dx,e1,a6.2 j _ e1]
   ·rw[Lz (l:=a0.toList) (by rw[Gz,a6.1];exact EU hj),Lz (l:=a3) (!EU hj)]
  rw[hv];refine hQ a3 h' d' c4 a7 fun b o e=>?_;have hb:=DP e;have c2:b≠I:=fun q=>by have:=b1 I Dq;rw[←q]at this;exact Bh (((BC _ e).symm.trans this))
  exact hm.heap b o (by simp -iota only[A7,HY,or_false,not_or];exact⟨Bp hb,c2⟩) (k3 b o (Bp hb) (b2 _ _ (BC _ e)))
 refine wpAny_ite_split (fun zz=>?_) (fun q=>absurd (by decide+kernel) q);refine AE (MB ?_);refine AE ?_;show AR _ KG.in1 (updateSeq DH.heap.objs.size (·.push .none)>>=fun zz=>updateSeq DH.heap.objs.size (·.pop)) _ _ _;refine AE (ja a4 rfl ?_);have a5:=GY (Dd (·.push MA)) a4 rfl;refine ja a5 rfl ?_;have b3:=GY (Dd (·.pop)) a5 rfl;refine Ad ⟨Ym PySem.F.plain_extend_loop _,N4 (fin _ _ (fun b o hb e=>(HV _ _ (Ne.symm hb)).trans ((HV _ _ (Ne.symm hb)).trans e)) b3) fun r s' hr=>?_⟩;cases r with
 |error e=>exact hr.elim
 |ok fl=>
  cases fl with
  |ret v=>
   refine M0 hr fun b6 a0 c' b0 q=>?_;subst b6;show AR _ KG (load DH.heap.objs.size>>=_) _ _ s';refine AE (Ys b0 ?_);exact Ad q
  |_=>exact hr.elim
theorem xq{A E s Q}:XH A E s Q:=@zF _ b9 _ @mE ((A,E),(s,Q))
variable {σ σ' σ'' τ τ':AA} {s' s'':AN} {h h':A5} {env:Af} {ρ ρ':AW}
theorem zf{h:A5}{a:AB}{vs:List Value}{out:Array Value}{n:Nat}(e1:h.get? a=some (Bq "list" vs.toArray n)):
  (∀b o,b≠a→h.get? b=some o→(UD h a vs out).get? b=some o)∧∃n,(UD h a vs out).get? a=some {cls:=.type "list",data:=.seq out n}:=by
 unfold UD;constructor
 ·intro b o m e;rw[HV _ _ (Ne.symm m)];refine BC _ (BC _ ?_);rw[HV _ _ (Ne.symm m)];exact e
 ·obtain⟨n1,e2⟩:∃n1,(h.update a (Dd fun zz=>#[])).get? a=some (Bq "list" #[] n1):=⟨_,UE e1 (fun zz=>#[])⟩;have e3:=BC (Bq "list" #[] 0) (BC (Bq "tuple" vs.toArray 0) e2);exact⟨_,UE e3 (fun zz=>out)⟩
theorem qR:∀{vs:List Value},(∀v∈vs,∃k t,v=.int k t)→Jp vs (vs.map PD):=by
 intro vs
 induction vs with
 |nil=>
  intro _;exact .nil
 |cons v vs n=>
  intro h;refine B0 (h v (.head _)) fun k t m=>?_;subst m;exact .cons k t (n fun u hu=>h u (.tail _ hu))
theorem vP(hh:A.handled=none)(hS:Hf w s.heap a is)(b6:is.length<64)
  (h:∀(out:Array Value)(js:List Int),Jp out.toList js→js.Pairwise (· <·)→(∀k,k∈js↔k∈is)→∀D h' d tk n,s.heap.get? D=none→h'.get? D=some {cls:=.type "list",data:=.seq out n}→(∀b o,s.heap.get? b=some o→h'.get? b=some o)→Q (.ref D) {s with heap:=h',drawn:=d,toks:=tk}):
  AR (Ae pg w) A (call (.builtin "sorted") [.ref a]) Q E s:=by
 refine AY hS fun m b5=>AL b5 fun hm b4=>K0 b4 fun es ep t ho D=>?_;refine Zfo kind_sorted plain_sorted entry_sorted (args_sorted1 _) ?_;unfold Builtin.«sorted»;refine AE (m:=checkCount "sorted" 1 1 _) (Ad ?_);refine AE (xq (by simp[hh]) ho D fun vs h1 d tk hp hk=>?_);have b0:vs.length=es.size:=by rw[hp.length_eq,AU,Gz]
 have b1:∀v∈vs,∃k t,v=.int k t:=fun v hv=>by
  refine AI (BD.mp (hp.mem_iff.mp hv)) fun e he b2=>?_;subst b2;refine AL (D.el e he) fun b3 zz=>AI b3 fun k a0 zz=>?_;refine AY (QI a0) fun t ht=>?_;exact⟨k,t,ht⟩
 have a9:vs.length≤63:=by rw[b0,D.sz];exact Al s6 b6 hm
 refine AE (jw ?_ (by have:=CJ;exact AK a9 (AK (ld rfl) (Ac this.symm))));have a6:(h1.push (Bq "list" vs.toArray 0)).get? h1.objs.size=some (Bq "list" vs.toArray 0):=B2 _ rfl;refine AE (CI (HT slot_list_sort ⟨_,a6,rfl⟩ entry_list_sort (list_sort_tree a6 (qR b1) (!CG a9) fun out ns' a1 a2 a3=>⟨_,rfl,?_⟩) (args_list_sort _)));refine GG (zf (out:=out) a6) fun k1 n eo=>?_;refine Ad ⟨_,rfl,h out ns' a1 ?_ (fun k=>?_) h1.objs.size _ d tk n ?_ eo fun b o e=>k1 b o ?_ (BC _ (hk b o e))⟩
 ·have b7:ns'.Nodup:=by
   refine a2.nodup_iff.mpr ?_;have:(vs.map PD).Perm (es.toList.map fun e=>PD e.2):=by have:=hp.map PD;rwa [Bx]at this
   exact this.nodup_iff.mpr D.nd
  exact(a3.and b7).imp fun a4=>AL a4 fun q1 q2=>by exact Zat a4
 ·rw[a2.mem_iff];have a5:=D.mem k;constructor
  ·intro q;refine AI (BD.mp q) fun v hv e1=>?_;refine AI (BD.mp (hp.mem_iff.mp hv)) fun e he a8=>?_;subst a8;refine AL (D.el e he) fun a7 zz=>AI a7 fun k' a0 zz=>?_;refine AY (QI a0) fun t' ht=>?_;have:k'=k:=by rw[ht]at e1;exact e1
   subst this;have:=a5.mpr ⟨e,he,a0⟩;simpa using this
  ·intro q;refine AI (a5.mp (by simpa using q)) fun e he a0=>?_;refine AY (QI a0) fun t' ht=>?_;exact BD.mpr ⟨e.2,hp.mem_iff.mpr (BD.mpr ⟨e,he,rfl⟩),by rw[ht];rfl⟩
 ·cases q:s.heap.get? h1.objs.size with
  |none=>rfl
  |some o=>exact absurd (DP (hk _ _ q)) (EP _)
 ·rintro rfl;exact EP _ (DP (hk _ _ e))
theorem Zda{f1 f2:Str}{p1 p2 q1 q2:A3}{x:Expr}(hh:A.handled=none)
  (k:EV A env (.Name f1 p1) ρ σ fun fv a3=>fv=.fix (.builtin "sorted")∧EV A env (.Name f2 p2) ρ a3 fun fv a2=>fv=.fix (.type "set")∧EV A env x ρ a2 fun v σ₂=>∃l is,v=.ref l∧σ₂ l=some (.list (BH is))∧is.length<64∧
   ∀js:List Int,js.Pairwise (· <·)→(∀k,k∈js↔k∈is)→∀D,σ₂ D=none→hb.get? D=none→Φ (.ref D) (upd σ₂ D (.list (BH js))))
  (hp:autoParam (CO [x]=true) aR)(he:autoParam (∀env,Bb [.Call (.Name f2 p2) [x] [] q2] env=[(false,A0 (.Call (.Name f2 p2) [x] [] q2) env)]) aI)(hx:autoParam (∀env,Bb [x] env=(false,A0 x env)::Bb [] env) aI):
  EV A env (.Call (.Name f1 p1) [.Call (.Name f2 p2) [x] [] q2] [] q1) ρ σ Φ:=fun s S=>
 Ts (AT (k s S) (fun u s₁ a4=>BG a4 fun fv a2 r g t a4=>AL a4 fun e1 a8=>by
  subst e1;obtain rfl:=TU r;have b2:=S.step g t;have b0:CO [Expr.Call (.Name f2 p2) [x] [] q2]=true:=rfl;refine i8 (E7 b0) (Gg (E7 b0) ?_);refine Tn (e:=.Call (.Name f2 p2) [x] [] q2) (rest:=[]) (PO b2 (a8.mono fun fv σ₂ b3=>AL b3 fun e2 b1=>⟨_,e2,AC.cons (b1.mono fun v a0 b4=>xt b4 fun l is e3 el hl q=>AC.nil (fun m vs a1 a5 a7=>?_)) hx⟩) hp) (he _);subst e3;cases a5 with
  |cons r r'=>
   cases r';obtain rfl:=Bi r;refine Cn ((a1.own _ _ el).2) fun items n o qs=>?_;have hI:=Wv qs;have b5:items.toList.length=is.length:=by rw[←qs.length,AU]
   refine v4 hh (items:=items) ⟨_,o,rfl,n,rfl⟩ hI (by unfold Kd;exact ln (CG hl) rfl) fun h5 b6 hS k5=>?_;refine Tm ?_;refine vP hh hS hl fun out js hO a9 a6 D h6 d tk n' hD eo k6=>?_;have kk:∀b o,m.heap.get? b=some o→h6.get? b=some o:=fun b o e=>k6 _ _ (k5 _ _ e);have nD:m.heap.get? D=none:=by
    cases z:m.heap.get? D with
    |none=>rfl
    |some o=>have:=k5 _ _ z;exact As (((show h5.get? D=none from hD).symm.trans this))
   refine AL (f7 a1 nD) fun n1 n2=>?_;exact⟨.ref D,upd a0 D (.list (BH js)),.ref _,(a1.keeps kk).adopt n2 ⟨out,n',eo,gL hO⟩,(t.trans a7).trans ((Aq.keeps (σ:=a0) (s:=m) (s':={m with heap:=h6,drawn:=d,toks:=tk}) kk rfl rfl).adopt fun zz=>nD),q js a9 a6 D n1 n2⟩) fun zz zz e=>e)
end
section
variable {σ σ' σ'' τ τ':AA} {s s' s'':AN} {h h':A5} {A:AX} {env:Af} {ρ ρ':AW}
abbrev l4(x y:Str)(n py p2:A3)(m:Expr):List Comprehension:=[⟨.Name x n,m,[],0⟩,⟨.Name y py,.Name x p2,[],0⟩]
abbrev FO(x y:Str)(px py p1 p2:A3)(m:Expr)(scope:C7)(n:A3):Expr:=.ListComp (.Name y p1) (l4 x y px py p2 m) scope n
theorem zT(x y:Str)(px py p1 p2:A3)(m:Expr)(scope:C7)(a0:A3)(it n:Value)(env:Af):
  Tx (FO x y px py p1 p2 m scope a0) 1 it n env=(Cp p2>>=fun zz=>Jq it>>=fun r=>match r with
   |none=>pure (.done .next)
   |some v=>YU (.Name y py) it v>>=fun zz=>Fs (.Name y py) env v>>=fun zz=>
    (A0 (.Name y p1) env>>=fun x=>call (.builtin "list.append") [n,x]>>=fun zz=>pure Unit.unit)>>=fun zz=>
     again (.compLoop (FO x y px py p1 p2 m scope a0) 1 it n env)):=by rfl
theorem xE(x y:Str)(px py p1 p2:A3)(m:Expr)(scope:C7)(a0:A3)(it n:Value)(env:Af):
  Tx (FO x y px py p1 p2 m scope a0) 0 it n env=(Cp m.pos>>=fun zz=>Jq it>>=fun r=>match r with
   |none=>pure (.done .next)
   |some v=>YU (.Name x px) it v>>=fun zz=>Fs (.Name x px) env v>>=fun zz=>
    A0 (.Name x p2) env>>=fun u=>Cp p2>>=fun zz=>G2 (.Name x p2) env u>>=fun u=>CW [u] (Nq u)>>=fun j=>
     runOwn (.compStart (FO x y px py p1 p2 m scope a0) 1 j n env) env>>=fun zz=>
     again (.compLoop (FO x y px py p1 p2 m scope a0) 0 it n env)):=by rfl
structure ID(w:AD)(C D:AB)(τ:AA)(s:AN)(ys:List AV):Prop where
 nD:τ D=none
 nC:τ C=none
 pl:∃vs,s.heap.PlainList D vs∧VRs s.heap ys vs.toList
 ns:∃m,s.heap.Ns C m
theorem ID.kp(c:ID w C D τ s ys)(k:Kp a0 s s')(tk:Bt s.heap s'.heap)(hD:D∉a0)(hC:C∉a0):ID w C D τ s' ys:=by
 refine Fz c.pl fun vs n e r=>?_;refine KL c.ns fun m o es ep ho q=>?_;exact⟨c.nD,c.nC,⟨vs,⟨n,k.k _ _ hD e⟩,r.mono tk⟩,m,o,es,ep,k.k _ _ hC ho,q⟩
def Q3(scope:C7)(env:Af)(x y:Str):Bool:=
 scope.kind== .function&&env.scope.kind== .function&&decide ((scope.names.map (·.1)).Nodup)&&scope.names.lookup x==some .local&&scope.names.lookup y==some .local&&scope.names.all fun p=>p.2 != .free&&p.2 != .cell
structure g4(scope:C7)(env:Af)(x y:Str):Prop where
 kind:scope.kind=.function
 ekind:env.scope.kind=.function
 nd:(scope.names.map (·.1)).Nodup
 ox:scope.names.lookup x=some .local
 oy:scope.names.lookup y=some .local
 free:∀p∈scope.names,p.2≠.free
 cell:∀p∈scope.names,p.2≠.cell
theorem mN(h:Q3 scope env x y=true):g4 scope env x y:=by
 unfold Q3 at h;simp only[Fq,beq_iff_eq,decide_eq_true_eq]at h;refine AL h fun m h6=>AL m fun a0 h5=>AL a0 fun n h4=>AL n fun a1 h3=>AL a1 fun h1 h2=>?_;have h7:=Fo.mp h6;simp only[Fq,bne_iff_ne]at h7;exact⟨h1,h2,h3,h4,h5,fun p hp=>(h7 p hp).1,fun p hp=>(h7 p hp).2⟩
def Wu(σ:AA)(s:AN)(A:AX)(env:Af)(ρ:AW)(scope:C7)(x:Str)(y:Str)(I:AB)(xs:List AV)(C:AB)(D:AB)(ys:List AV)(R:Ju→AN→Prop)(px:A3)(py:A3)(p1:A3)(p2:A3)(m:G5)(n:A3):Prop:=∀(hh:A.handled=none)(hc:g4 scope env x y)(S:St env ρ σ s.heap)(hI:Bs w σ s.heap I (.tup xs) 0)(a3:hb.get? I=none)(c:ID w C D σ s ys)(fD:D∉fp env)(fC:C∉fp env)(bD:hb.get? D=none)(bC:hb.get? C=none)(a1:D≠C)(a0:D≠I)(a2:C≠I)(hl:ys.length+xs.length≤1000000)(hd:(y==("__debug__":Str))=false)(q:∀s',St env ρ σ s'.heap→Kp [C,D,I] s s'→Bt s.heap s'.heap→ID w C D σ s' (ys++xs)→R (.ok .next) s'),FI (Ae pg w) A (.compLoop (FO x y px py p1 p2 m scope n) 1 (.ref I) (.ref D) (CR scope env C)) R s
def d8:((((AA×AN)×AX)×(Af×AW))×(((C7×Str)×Str)×(AB×List AV)))×((((AB×AB)×List AV)×((Ju→AN→Prop)×A3))×(((A3×A3)×A3)×(G5×A3)))→Prop:=fun t=>Wu t.1.1.1.1.1 t.1.1.1.1.2 t.1.1.1.2 t.1.1.2.1 t.1.1.2.2 t.1.2.1.1.1 t.1.2.1.1.2 t.1.2.1.2 t.1.2.2.1 t.1.2.2.2 t.2.1.1.1.1 t.2.1.1.1.2 t.2.1.1.2 t.2.1.2.1 t.2.1.2.2 t.2.2.1.1.1 t.2.2.1.1.2 t.2.2.1.2 t.2.2.2.1 t.2.2.2.2
def EG:=zE d8 ((((((fun _=>none),{}),{}),(BV,(fun _=>none))),(((BV,BV),BV),(0,[]))),((((0,0),[]),((fun _ _=>True),BV)),(((BV,BV),BV),(BV,BV))))
def NA:=EG.1.1.1.1.1
def Ur:=EG.1.1.1.1.2
def bY:=EG.1.1.1.2
def Mh:=EG.1.1.2.1
def dS:=EG.1.1.2.2
def RA:=EG.1.2.1.1.1
def Pp:=EG.1.2.1.1.2
def Q9:=EG.1.2.1.2
def IC:=EG.1.2.2.1
def E8:=EG.1.2.2.2
def GN:=EG.2.1.1.1.1
def GO:=EG.2.1.1.1.2
def Ws:=EG.2.1.1.2
def wN:=EG.2.1.2.1
def cB:=EG.2.1.2.2
def Vh:=EG.2.2.1.1.1
def dr:=EG.2.2.1.1.2
def aO:=EG.2.2.1.2
def iF:=EG.2.2.2.1
def eH:=EG.2.2.2.2
theorem pY:Wu NA Ur bY Mh dS RA Pp Q9 IC E8 GN GO Ws wN cB Vh dr aO iF eH:=fun hh hc S hI g2 c fD fC bD bC e8 e6 f3 hl hd q=>by
 have hy:(CR RA Mh GN).kindOf Q9=some .local:=jH hc.oy;refine jE rfl (fun n s'=>∃i,n+i=E8.length∧i≤E8.length∧St Mh dS NA s'.heap∧Kp [GN,GO,IC] Ur s'∧Bt Ur.heap s'.heap∧ID w GN GO NA s' (Ws++E8.take i)∧Bs w NA s'.heap IC (.tup E8) i)
  (fun n s' e5=>AY e5 fun i f2=>Bv f2 fun hn hi S' e9=>Bv e9 fun kp tk c' it=>?_) E8.length ⟨0,!Ep (A9 _) (A9 _),!Be _,S,⟨fun zz zz zz e=>e,rfl,rfl⟩,fun zz zz zz zz e zz zz=>e,by simpa using c,hI⟩
 show AR _ bY ((Tx (FO Pp Q9 cB Vh dr aO iF RA eH) 1 (.ref IC) (.ref GO) (CR RA Mh GN)).onRaise (fun Pp=>do Nr Pp _;jF Pp)) _ _ s'
 refine wpAny_noted ?_;rw[zT];have hf:=it.fields;refine AE (EQ (AE (AT (Bs.next (target:=.Name Q9 Vh) (r:=E8[i]?) (E:=fun zz zz=>False) S'.g it hh rfl trivial) (fun o f0 c9=>?_) fun zz zz e=>DR e)))
 have f5:=S'.ownfx hf;have c1:∀b∈(BI.tup E8).own IC,hb.get? b=none:=fun b m=>by rw[Ap.mp m];exact g2
 have c6:∀{s₁ s₂:AN},Kp ((BI.tup E8).own IC) s₁ s₂→Kp [GN,GO,IC] s₁ s₂:=fun k=>⟨fun b o a7 e=>k.k b o (fun m=>a7 (by rw[Ap.mp m];simp)) e,k.gens,k.os⟩;have b6:∀{s₁ s₂ c2:AN},Kp [GN,GO,IC] s₁ s₂→Kp [GN,GO,IC] s₂ c2→Kp [GN,GO,IC] s₁ c2:=fun k1 k2=>⟨fun b o a7 e=>k2.k b o a7 (k1.k b o a7 e),k2.gens.trans k1.gens,k2.os.trans k1.os⟩;have b7:∀{h₁ c3 c8:A5},Bt h₁ c3→Bt c3 c8→Bt h₁ c8:=fun t1 t2 a o items n e c d=>t2 a o items n (t1 a o items n e c d) c d;cases o with
 |none=>
  refine AL c9 fun e a4=>?_;have g3:E8.length≤i:=Gb.mp e;refine AL (S'.g.kp a4 (fun b m=>(hf b m).1) (fun b m=>⟨c1 b m,(hf b m).2⟩)) fun h3 b1=>?_;have g0:=S'.kp a4 f5 (fun b m=>⟨c1 b m,(hf b m).2⟩);rw[Io g3]at c';exact Ad (q f0 g0 (b6 kp (c6 a4)) (b7 tk b1) (c'.kp a4 b1 (by simpa[BI.own]using e6) (by simpa[BI.own]using f3)))
 |some v=>
  refine AE (AT c9 (fun zz a0 g1=>NU g1 fun av e rx b4 a6=>?_) fun zz zz e=>DR e);refine AL (S'.g.kp a6 (fun b m=>(hf b m).1) (fun b m=>⟨c1 b m,(hf b m).2⟩)) fun h2 b2=>?_;have c4:=S'.kp a6 f5 (fun b m=>⟨c1 b m,(hf b m).2⟩);have a1:=c'.kp a6 b2 (by simpa[BI.own]using e6) (by simpa[BI.own]using f3);refine AY a1.ns fun g9 b0=>?_;refine AE (QM (YL hy b0 (fun a2 a9 b3=>?_) (by simp[Ly,G3,hc.kind])));have kC:Kp [GN] a0 {a0 with heap:=a2,toks:=a0.toks+1}:=⟨fun b o hb e=>b3.extBut b o (fun h=>hb (Ap.mpr h)) e,rfl,rfl⟩;have e2:∀b∈[GN],fx Mh NA b=none:=fun b m=>by rw[Ap.mp m];exact JI a1.nC fC
  have e4:NT a0.heap GN∧∀o,a0.heap.get? GN=some o→∀E8,o.data≠.fields E8:=by
   refine Pf b0 fun o es ep ho hd zz=>?_;exact⟨⟨o,ho,fun⟨_,_,_,d⟩=>!(nomatch ((hd.symm.trans d)))⟩,fun o' e E8 d=>by obtain rfl:=Ao ((ho.symm.trans e));exact(nomatch ((hd.symm.trans d)))⟩
  have e7:∀b∈[GN],hb.get? b=none∧NT a0.heap b:=fun b m=>by rw[Ap.mp m];exact⟨bC,e4.1⟩
  refine AL (c4.g.kn kC (fun b m=>(II (e2 b m)).1) e7) fun h1 a3=>?_;have c5:=c4.kn kC e2 e7;have d5:=b4.kn kC a3 (fun b m=>by rw[Ap.mp m];exact e4.2) trivial;have d1:=rx.mono a3;refine AE (AE (Nk (Lr (by simp[Ly,G3,hc.kind]) hy a9 (if_pos rfl) ?_) hd));refine Fz a1.pl fun vs n' el rs=>?_;have a8:a2.get? GO=some _:=kC.k _ _ (by simpa using e8) el;refine AE (YW ⟨n',a8⟩ (fun f4 d2 b5=>?_) ?_)
  ·have kD:Kp [GO] {a0 with heap:=a2,toks:=a0.toks+1} {a0 with heap:=f4,toks:=a0.toks+1}:=⟨fun b o hb e=>b5.extBut b o (fun h=>hb (by simp[h])) e,rfl,rfl⟩;have e3:∀b∈[GO],fx Mh NA b=none:=fun b m=>by rw[Ap.mp m];exact JI a1.nD fD
   have e0:NT a2 GO∧∀o,a2.get? GO=some o→∀E8,o.data≠.fields E8:=⟨⟨_,a8,fun⟨q,_⟩=>by simp at q⟩,fun o' e' E8 d=>by obtain rfl:=Ao ((a8.symm.trans e'));exact nomatch d⟩;have f1:∀b∈[GO],hb.get? b=none∧NT ({a0 with heap:=a2,toks:=a0.toks+1}:AN).heap b:=fun b m=>by rw[Ap.mp m];exact⟨bD,e0.1⟩
   refine AL (c5.g.kn kD (fun b m=>(II (e3 b m)).1) f1) fun h0 a5=>?_;have d6:=c5.kn kD e3 f1;have d3:=d5.kn kD a5 (fun b m=>by rw[Ap.mp m];exact e0.2) trivial;have d4:=(BY.mp e).1;refine Ad (Ad ⟨rfl,n-1,!ai hn d4,i+1,!ao hn d4,!d4,d6,b6 kp (b6 (c6 a6) (b6 ⟨fun b o a7 e=>kC.k b o (fun m=>a7 (by rw[Ap.mp m];exact Dq)) e,rfl,rfl⟩ ⟨fun b o a7 e=>kD.k b o (fun m=>a7 (by rw[Ap.mp m];simp)) e,rfl,rfl⟩)),
    b7 tk (b7 b2 (b7 a3 a5)),⟨a1.nD,a1.nC,⟨vs.push v,d2,?_⟩,?_⟩,d3⟩)
   ·rw[QT,G4,e,←Yr];exact((rs.mono a3).mono a5).append (.one (d1.mono a5))
   ·refine K0 a9 fun o es ep ho r=>?_;exact⟨_,o,es,ep,kD.k _ _ (by simpa using Ne.symm e8) ho,r⟩
  ·have e1:(Ws++E8.take i).length=vs.size:=rs.length.trans Gz;rw[BJ,N8]at e1;rw[CJ];have:vs.size≤1000000:=by exact lZ hl e1
   exact AK this ⋯
theorem Zac{σ s A env ρ scope x y I xs C D ys R px py p1 p2 m n}:Wu σ s A env ρ scope x y I xs C D ys R px py p1 p2 m n:=@zF _ d8 _ @pY (((((σ,s),A),(env,ρ)),(((scope,x),y),(I,xs))),((((C,D),ys),(R,px)),(((py,p1),p2),(m,n))))
theorem Bs.kq(it:Bs w τ s.heap I a1 i)(k:Kp a2 s s')(tk:Bt s.heap s'.heap)(a0:∀b∈a1.own I,b∉a2)(ho:a1.open_):Bs w τ s'.heap I a1 i:=by
 cases a1 with
 |list l=>refine LM it fun n o e c d=>?_;exact⟨n,o,k.k _ _ (a0 I (!Dq)) e,c,d⟩
 |tup xs=>refine SN it fun n t items m nt o e c d et rs=>?_;exact⟨n,t,items,m,nt,⟨o,k.k _ _ (a0 I (!Dq)) e,c,d⟩,tk _ _ _ _ et rfl rfl,rs.mono tk⟩
 |range a m=>exact⟨it.1,k.k _ _ (a0 I (!Dq)) it.2⟩
 |enum l j=>refine Ru it fun n n2 ne a3 e o e2 c d=>?_;exact⟨n,n2,ne,⟨a3,k.k _ _ (a0 I (!Dq)) e⟩,o,k.k _ _ (a0 j (by simp[BI.own])) e2,c,d⟩
 |vals d xs=>exact ho.elim
 |chars y=>refine MN it fun n t o e c d=>?_;exact⟨n,t,o,k.k _ _ (a0 I (!Dq)) e,c,d⟩
theorem ue
  (h0:FI (Ae pg w) A (.compLoop (FO x y px py p1 p2 m scope n) 1 it a0 env) R s)
  (h:AR (Ae pg w) A (Nq it) (fun a1 s'=>FI (Ae pg w) A (.compLoop (FO x y px py p1 p2 m scope n) 1 a1 a0 env) R s') (notedBy (Ae pg w) A env fun x s'=>R (.error x) s') s):
  FI (Ae pg w) A (.compStart (FO x y px py p1 p2 m scope n) 1 it a0 env) R s:=by
 refine UJ ?_;show AR _ _ ((compStart (FO x y px py p1 p2 m scope n) 1 it a0 env).onRaise (fun x=>do Nr x env;Cp theWindowsPlace)) _ _ s
 refine wpAny_notedAt ?_;unfold compStart;show AR _ _ (ask>>=_) _ _ s;refine AE (Kf (wpAny_ite ?_));split
 ·first
   |exact AE (Ad (Ad (And.intro rfl h0)))
   |exact Ad (And.intro rfl h0)
 ·first
   |exact AE (MB (AE (EQ (AE (AT h (fun a1 s' h'=>Ad (And.intro rfl h')) fun zz zz x=>x)))))
   |(refine AE (MB ?_);show AR _ _ (Cp p2>>=_) _ _ s;exact AE (EQ (AE (AT h (fun a1 s' h'=>Ad (And.intro rfl h')) fun zz zz x=>x))))
def Wq(σ:AA)(A:AX)(env:Af)(ρ:AW)(n:G5)(x:Str)(px:A3)(Φ:AV→AA→Prop)(scope:C7)(y:Str)(py:A3)(p1:A3)(p2:A3)(a2:A3):Prop:=∀(hh:A.handled=none)(k:BQ A env n ρ σ fun a0 m=>Hv a0 (.Name x px)∧a0.open_∧∃a1:List (List AV),a0.has m (a1.map .tup)∧a1.flatten.length≤1000000∧∀D,m D=none→hb.get? D=none→Φ (.ref D) (upd m D (.list a1.flatten)))(a4:Q3 scope env x y=true)(a3:(x==("__debug__":Str))=false)(a5:(y==("__debug__":Str))=false)(hs:autoParam (∀x,G2 n env x=pure x) aI),EV A env (FO x y px py p1 p2 n scope a2) ρ σ Φ
def Zc:(((AA×AX)×(Af×AW))×((G5×Str)×A3))×((((AV→AA→Prop)×C7)×(Str×A3))×((A3×A3)×A3))→Prop:=fun t=>Wq t.1.1.1.1 t.1.1.1.2 t.1.1.2.1 t.1.1.2.2 t.1.2.1.1 t.1.2.1.2 t.1.2.2 t.2.1.1.1 t.2.1.1.2 t.2.1.2.1 t.2.1.2.2 t.2.2.1.1 t.2.2.1.2 t.2.2.2
def F0:=zE Zc (((((fun _=>none),{}),(BV,(fun _=>none))),((BV,BV),BV)),((((fun _ _=>True),BV),(BV,BV)),((BV,BV),BV)))
def M3:=F0.1.1.1.1
def PF:=F0.1.1.1.2
def Hn:=F0.1.1.2.1
def Os:=F0.1.1.2.2
def R8:=F0.1.2.1.1
def I7:=F0.1.2.1.2
def Oj:=F0.1.2.2
def ci:=F0.2.1.1.1
def J1:=F0.2.1.1.2
def Mf:=F0.2.1.2.1
def Qo:=F0.2.1.2.2
def Re:=F0.2.2.1.1
def Rb:=F0.2.2.1.2
def Sj:=F0.2.2.2
theorem l5:Wq M3 PF Hn Os R8 I7 Oj ci J1 Mf Qo Re Rb Sj:=fun hh k n2 m8 n1 hs=>fun s S=>by
 have c:=mN n2;show AR _ _ _ _ _ _;rw[eval_ListComp];refine jG rfl hs (WC fun p hp e=>absurd e (c.free p hp)) c.kind (fun Mf hy e=>Pb c.nd (by rw[←e];exact hy)) (AT (k s S) (fun v s₁ h₁=>AT h₁ (fun it s₂ h3=>Jl h3 fun I c2 a0 e1 k0 f0 g t h9=>BN h9 fun ht ho h8=>B3 h8 fun a4 k4 hN fin=>?_) fun zz zz e=>e) fun zz zz e=>e);subst e1;have e8:St Hn Os a0 s₂.heap:=S.step g t;have e0:=PH S.g f0;refine Nt (wpAny_newFunctionEnv c.cell (by intro Mf hy;simp at hy) (fun h₁ a8 a6=>?_) c.kind) (by show([]:List Value).toArray.size≤Nu;rw[CJ];exact Be _);dsimp only at a8 a6 ⊢;generalize f1:s₂.heap.push {cls:=.type "list",dict:=none,data:=.seq ([]:List Value).toArray}=H2 at a8 a6 ⊢;have hC:H2.objs.size=s₂.heap.objs.size+1:=by rw[←f1,Jr]
 have e9:∀b o,s₂.heap.get? b=some o→b≠H2.objs.size∧b≠s₂.heap.objs.size:=fun b o e=>by
  have hb:=DP e;exact⟨by rw[hC];exact Bp (H5 hb),Bp hb⟩
 have d4:∀b o,s₂.heap.get? b=some o→h₁.get? b=some o:=fun b o e=>a6.extBut b o (e9 b o e).1 (BC _ (f1▸BC _ e));have e2:s₂.heap.objs.size≠H2.objs.size:=by rw[hC];exact Bp (Nv _)
 have k7:h₁.PlainList s₂.heap.objs.size #[]:=⟨_,a6.extBut _ _ e2 (BC _ (f1▸B2 _ rfl))⟩;have b7:∀a,s₂.heap.objs.size≤a→s₂.heap.get? a=none:=fun a ha=>Im ha;have c9:∀a,s₂.heap.get? a=none→a0 a=none:=fun a=>g.none1;have c4:∀a,s₂.heap.get? a=none→hb.get? a=none:=fun a=>g.noneb;have e5:∀a,s₂.heap.get? a=none→a∉fp Hn:=fun a=>e8.nofp;have a5:∀a,s₂.heap.get? a=none→a∉c2.own I:=fun a=>k0.noown;have g9:∀l:List AB,c2.off l:=fun l=>by
  cases c2<;>first|exact trivial|exact ho.elim
 have eD:=b7 s₂.heap.objs.size (A9 _);have eC:=b7 H2.objs.size (by rw[hC];exact G1 _);generalize s₂.heap.objs.size=D at*;generalize H2.objs.size=C at*;have f4:Bt s₂.heap h₁:=fun a o zz zz e zz zz=>d4 a o e;have kk:∀a3:AN,a3={s₂ with heap:=h₁,toks:=s₂.toks+([]:List (Str×Value)).length}→Aq a0 s₂ a0 a3:=fun a3 e=>by subst e;exact .keeps d4 rfl rfl
 have k8:St Hn Os a0 h₁:=e8.step (s':={s₂ with heap:=h₁}) (g.keeps d4) (.keeps d4 rfl rfl);have b2:∀a3:AN,a3={s₂ with heap:=h₁,toks:=s₂.toks+([]:List (Str×Value)).length}→ID w C D a0 a3 []∧Bs w a0 a3.heap I c2 0:=fun a3 e=>by
  subst e;exact⟨⟨c9 _ eD,c9 _ eC,⟨#[],k7,.nil⟩,_,a8⟩,k0.step (s':={s₂ with heap:=h₁}) (.keeps d4 rfl rfl) f4⟩
 have hx:(CR J1 Hn C).kindOf I7=some .local:=jH c.ox;have m0:EZ M3 s D:=t.fresh eD;have f5:EZ M3 s C:=t.fresh eC;have bD:=c4 D eD;have bC:=c4 C eC;have fD:=e5 D eD;have fC:=e5 C eC;have e3:∀a3:AN,a3={s₂ with heap:=h₁,toks:=s₂.toks+([]:List (Str×Value)).length}→
   FI (Ae pg w) PF (.compLoop (FO I7 Mf Oj Qo Re Rb R8 J1 Sj) 0 (.ref I) (.ref D) (CR J1 Hn C)) (QS (Ae pg w) PF (fun zz zz=>False) none (PV M3 s ci) (.ref D) C) a3:=by
  intro a3 c1;refine jE rfl (fun n s'=>∃i,n+i=a4.length∧i≤a4.length∧St Hn Os a0 s'.heap∧Aq M3 s a0 s'∧ID w C D a0 s' (a4.take i).flatten∧Bs w a0 s'.heap I c2 i) (fun n s' h2=>AY h2 fun i k2=>Bv k2 fun hn hi S' k1=>BN k1 fun t' c' it=>?_) a4.length
   ⟨0,!Ep (A9 _) (A9 _),!Be _,(by subst c1;exact k8),t.trans (kk _ c1),by simpa using(b2 _ c1).1,(b2 _ c1).2⟩
  show AR _ PF ((Tx (FO I7 Mf Oj Qo Re Rb R8 J1 Sj) 0 (.ref I) (.ref D) (CR J1 Hn C)).onRaise (fun I7=>do Nr I7 _;jF I7)) _ _ s'
  refine wpAny_noted ?_;rw[xE];have hf:=it.fields;have l3:=S'.ownfx hf;have hr:=k4 i;refine AE (EQ (AE (AT (Bs.next (target:=.Name I7 Oj) (E:=fun zz zz=>False) S'.g it hh hr ht) (fun o c6 e7=>?_) fun zz zz e=>DR e)))
  have p3:∀{a b c:A5},Bt a b→Bt b c→Bt a c:=fun t1 t2 a o items n e c d=>t2 a o items n (t1 a o items n e c d) c d;cases o with
  |none=>
   refine AL e7 fun e kp=>?_;have n5:a4.length≤i:=by
    rw[CK]at e;cases z:a4[i]? with
    |none=>exact Gb.mp z
    |some v=>rw[z]at e;cases e
   rw[Io n5]at c';refine AL (S'.g.kp kp (fun b m=>(hf b m).1) (fun b m=>⟨e0 b m,(hf b m).2⟩)) fun p2 g0=>?_;have m1:=S'.kp kp l3 (fun b m=>⟨e0 b m,(hf b m).2⟩);have b4:=c'.kp kp g0 (a5 D eD) (a5 C eC);refine Fz b4.pl fun vs n' el rs=>?_;have oD:Ee w c6.heap D (.list a4.flatten):=⟨vs,n',el,rs⟩;have b5:=m1.adopt bD fD oD;refine AY b4.ns fun m hn=>?_;refine Ad ?_;show QS _ _ _ _ _ _ _ _ _;refine⟨m,hn,fun h' n4=>?_⟩;have kC:Kp [C] c6 {c6 with heap:=h'}:=⟨fun b o hb e=>n4.extBut b o (fun h=>hb (Ap.mpr h)) e,rfl,rfl⟩;refine AL (b5.g.kn kC (fun b m=>by rw[Ap.mp m,Au _ _ (Ne.symm e2)];exact b4.nC) (fun b m=>by rw[Ap.mp m];exact⟨bC,Rd hn⟩)) fun a7 a9=>?_;exact⟨.ref D,upd a0 D (.list a4.flatten),.ref _,a7,kC.stp ((kp.stp t' f0).adopt m0) (fun b m=>by rw[Ap.mp m];exact f5),fin D b4.nD bD⟩
  |some v=>
   refine AE (AT e7 (fun zz a1 z=>NU z fun av e rx d6 kp=>?_) fun zz zz e=>DR e);obtain⟨xs,h5,rfl⟩:∃xs,a4[i]? =some xs∧av=.tup xs:=by
    rw[CK]at e;cases z:a4[i]? with
    |none=>rw[z]at e;cases e
    |some v=>rw[z]at e;exact⟨v,rfl,(Ao e).symm⟩
   refine AL (S'.g.kp kp (fun b m=>(hf b m).1) (fun b m=>⟨e0 b m,(hf b m).2⟩)) fun p1 g3=>?_;have b5:=S'.kp kp l3 (fun b m=>⟨e0 b m,(hf b m).2⟩);have b0:=c'.kp kp g3 (a5 D eD) (a5 C eC);have i1:=kp.stp t' f0;refine AY b0.ns fun p0 c5=>?_;refine AE (QM (YL hx c5 (fun a2 b6 d5=>?_) (by simp[Ly,G3,c.kind])));have kC:Kp [C] a1 {a1 with heap:=a2,toks:=a1.toks+1}:=⟨fun b o hb e=>d5.extBut b o (fun h=>hb (Ap.mpr h)) e,rfl,rfl⟩;have h6:∀b∈[C],fx Hn a0 b=none:=fun b m=>by rw[Ap.mp m];exact JI b0.nC fC
   have h7:NT a1.heap C∧∀o,a1.heap.get? C=some o→∀xs,o.data≠.fields xs:=by
    refine Pf c5 fun o es ep ho hd zz=>?_;exact⟨⟨o,ho,fun⟨_,_,_,d⟩=>!(nomatch ((hd.symm.trans d)))⟩,fun o' e xs d=>by obtain rfl:=Ao ((ho.symm.trans e));exact(nomatch ((hd.symm.trans d)))⟩
   have k3:∀b∈[C],hb.get? b=none∧NT a1.heap b:=fun b m=>by rw[Ap.mp m];exact⟨bC,h7.1⟩
   refine AL (b5.g.kn kC (fun b m=>(II (h6 b m)).1) k3) fun a7 a9=>?_;have k6:=b5.kn kC h6 k3;have e6:=kC.stp i1 (fun b m=>by rw[Ap.mp m];exact f5);have d2:=d6.kn kC a9 (fun b m=>by rw[Ap.mp m];exact h7.2) (g9 _);have f2:=rx.mono a9;have c3:ID w C D a0 {a1 with heap:=a2,toks:=a1.toks+1} (a4.take i).flatten:=by
    refine Fz b0.pl fun vs n' el rs=>?_;exact⟨b0.nD,b0.nC,⟨vs,⟨n',kC.k _ _ (by simpa using e2) el⟩,rs.mono a9⟩,_,b6⟩
   refine AE (Nk (Lr (by simp[Ly,G3,c.kind]) hx b6 (if_pos rfl) ?_) m8);refine AE (EQ (AE (Ad ?_)));cases f2 with
   |@tup a _ items e4 et rs=>
    refine AE (CI (wpAny_pyIter_tuple ⟨_,et,rfl,e4,rfl⟩ ?_));have eJ:=GM a2;have i2:Bs w a0 ({a1 with heap:=a2.push {cls:=.type "tuple_iterator",data:=.fields #[.ref a,.int 0 0]},toks:=a1.toks+1}:AN).heap a2.objs.size (.tup xs) 0:=
     ⟨a7.fresh.1,a,items,e4,a7.notTup et rfl rfl,⟨_,B2 _ rfl,rfl,rfl⟩,BC _ et,rs.mono fun zz zz zz zz q zz zz=>BC _ q⟩
    have bJ:=a7.fresh.2;have k9:=a7.push {cls:=.type "tuple_iterator",data:=.fields #[.ref a,.int 0 0]};have g1:Aq a0 {a1 with heap:=a2,toks:=a1.toks+1} a0 {a1 with heap:=a2.push {cls:=.type "tuple_iterator",data:=.fields #[.ref a,.int 0 0]},toks:=a1.toks+1}:=.push (s:={a1 with heap:=a2,toks:=a1.toks+1}) _;have m3:Kp [] {a1 with heap:=a2,toks:=a1.toks+1} {a1 with heap:=a2.push {cls:=.type "tuple_iterator",data:=.fields #[.ref a,.int 0 0]},toks:=a1.toks+1}:=⟨fun b o zz e=>BC _ e,rfl,rfl⟩;have d1:Bt a2 ({a1 with heap:=a2.push {cls:=.type "tuple_iterator",data:=.fields #[.ref a,.int 0 0]},toks:=a1.toks+1}:AN).heap:=fun b o zz zz e zz zz=>BC _ e;have l0:=k6.step k9 g1;have f3:=d2.step g1 d1;have h0:=c3.kp m3 d1 (by simp) (by simp);have n3:EZ M3 s a2.objs.size:=e6.fresh eJ;have n0:D≠a2.objs.size:=by
     refine Fz c3.pl fun vs n' el zz=>?_;exact Bp (DP el)
    have m4:C≠a2.objs.size:=by
     refine KL c3.ns fun m o es ep ho zz=>?_;exact Bp (DP ho)
    have o3:∀b∈c2.own I,b≠a2.objs.size:=fun b m=>by
     refine M0 (d2.fields b m) fun zz o xs e zz=>?_;exact Bp (DP e)
    generalize a2.objs.size=J at*;generalize({a1 with heap:=a2.push {cls:=.type "tuple_iterator",data:=.fields #[.ref a,.int 0 0]},toks:=a1.toks+1}:AN)=s₇ at*;have h4:(a4.take (i+1)).flatten=(a4.take i).flatten++xs:=by rw[G4,h5];simp
    have g2:=(BY.mp h5).1;have i0:(a4.take i).flatten.length+xs.length≤1000000:=by
     have e1:(a4.take (i+1)).flatten.length≤a4.flatten.length:=by
      conv=>rhs;rw[←List.take_append_drop (i+1) a4]
      rw[Zfp,BJ];exact Al xr
     rw[h4,BJ]at e1;exact AK e1 hN
    have run:FI (Ae pg w) PF (.compLoop (FO I7 Mf Oj Qo Re Rb R8 J1 Sj) 1 (.ref J) (.ref D) (CR J1 Hn C))
      (fun r s'=>match r with|.ok f=>St Hn Os a0 s'.heap∧Kp [C,D,J] s₇ s'∧Bt s₇.heap s'.heap∧ID w C D a0 s' (a4.take (i+1)).flatten|.error _=>False) s₇:=
     Zac hh c l0 i2 bJ h0 fD fC bD bC e2 n0 m4 i0 n1 fun k5 c8 b3 b1 d3=>⟨c8,b3,b1,by rw[h4];exact d3⟩
    have h1:=ue run (TM i2 run);refine AE (wpAny_runOwn (N4 h1 fun r k5 hr=>?_));cases r with
    |error e=>exact hr.elim
    |ok f=>
     refine Bv hr fun c8 b3 b1 d3=>?_;refine Ad ⟨rfl,n-1,!ai hn g2,i+1,!ao hn g2,!g2,c8,b3.stp (e6.trans g1) (fun b m=>?_),d3,f3.kq b3 b1 (fun b m m2=>?_) ho⟩
     ·simp only[A7,HY,or_false]at m;rcases m with rfl|rfl|rfl
      ·exact f5
      ·exact m0
      ·exact n3
     ·simp only[A7,HY,or_false]at m2;rcases m2 with rfl|rfl|rfl
      ·exact a5 _ eC m
      ·exact a5 _ eD m
      ·exact o3 _ m rfl
 exact jI (e3 _ rfl) (TM (b2 _ rfl).2 (e3 _ rfl))
theorem Zco{σ A env ρ m x px Φ scope y py p1 p2 n}:Wq σ A env ρ m x px Φ scope y py p1 p2 n:=@zF _ Zc _ @l5 ((((σ,A),(env,ρ)),((m,x),px)),(((Φ,scope),(y,py)),((p1,p2),n)))
end
set_option genInjectivity true
section
variable {σ σ' σ'' τ τ':AA} {A:AX}
abbrev nats(ns:List Nat):List AV:=ns.map fun(n:Nat)=>.int n
abbrev Nd:=Str×List Nat
def Nd.key(n:Nd):List B7:=.str n.1::n.2.map fun(k:Nat)=>.int k
theorem Lk{m n:Nd}(e:m.key=n.key):m=n:=by
 obtain⟨a,xs⟩:=m;obtain⟨b,ys⟩:=n;unfold Nd.key at e;rw[Qc]at e;obtain⟨e1,e2⟩:=e;cases e1;have:xs=ys:=by
  induction xs generalizing ys with
  |nil=>cases ys with|nil=>rfl|cons y ys=>simp at e2
  |cons x xs ih=>
   cases ys with
   |nil=>simp at e2
   |cons y ys=>
    simp only[CF,Qc,B7.int.injEq]at e2;rw[ih ys e2.2,jx e2.1]
 rw[this]
inductive Ch where
 |made (n:Nat)
 |known (k:Nd)
 |loose (kept many gone:Nat)
 |edge (kept many gone:Nat) (us:List Nat)
set_option genInjectivity false in
structure HS where
 nodes:List Nd
 nums:List (Nd×Nat)
 wts:List Int
 dps:List Int
 uab:List Nat
 lots:List (List Nat)
 merged:List (Nat×Nat)
 edges:List AV
 forest:List Nat
 known:List (Nd×Nat)
 abo:List (Nat×List Nat)
 waiting:List Nat
 changes:List Ch
 marks:List (Nat×List Nat)
 backs:Int
 made:Nat
inductive Slot where
 |hp|hdx|bk|bdx|un|udx
 |nodes|numbers|wts|dps
 |uab|ulots|ulot (i:Nat)|merged
 |edges|forest|known|above|abv (i:Nat)|waiting|changes|users (j:Nat)|marks|mark (j:Nat)
def Slot.ar(s:Slot):Nat:=@Slot.casesOn (fun m=>Nat) s 0 0 0 0 0 0 0 0 0 0 0 0 (fun i=>i) 0 0 0 0 0 (fun i=>i) 0 0 (fun i=>i) 0 (fun i=>i)
def Slot.of(n i:Nat):Slot:=[.hp,.hdx,.bk,.bdx,.un,.udx,.nodes,.numbers,.wts,.dps,.uab,.ulots,.ulot i,.merged,.edges,.forest,.known,.above,.abv i,.waiting,.changes,.users i,.marks,.mark i][n]?.getD .hp
theorem Slot.of_eq(s:Slot):Slot.of s.ctorIdx s.ar=s:=by cases s<;>rfl
def Slot.dq(a b:Slot):Decidable (a=b):=if h:a.ctorIdx=b.ctorIdx∧a.ar=b.ar then .isTrue ((Slot.of_eq a).symm.trans ((congr (congrArg Slot.of h.1) h.2).trans (Slot.of_eq b)))else .isFalse fun e=>h ⟨congrArg _ e,congrArg _ e⟩
abbrev AZ:=Slot→AB
def AZ.put(L:AZ)(s:Slot)(a:AB):AZ:=fun t=>@ite _ (t=s) (Slot.dq t s) a (L t)
@[simp]theorem Fn(L:AZ)(s:Slot)(a:AB):L.put s a s=a:=if_pos rfl
theorem Bd(L:AZ)(a:AB)(h:t≠s):L.put s a t=L t:=if_neg h
def FP(L:AZ)(j:Nat):Ch→AV
 |.made n=>.tup [.str "made",.int n]
 |.known k=>.tup [.str "known",B1 k.key]
 |.loose m many a0=>.tup [.str "edge",.int m,.int many,.int a0,.ref (L (.users j))]
 |.edge m many a0 _=>.tup [.str "edge",.int m,.int many,.int a0,.ref (L (.users j))]
def DW(c:HS)(L:AZ)(y:Str):Option AV:=
 if y="bank" then some (.ref (L .bk))else if y="unions" then some (.ref (L .un))else if y="edges" then some (.ref (L .edges))else if y="forest" then some (.ref (L .forest))
 else if y="known" then some (.ref (L .known))else if y="above" then some (.ref (L .above))else if y="waiting" then some (.ref (L .waiting))else if y="backs" then some (.int c.backs)
 else if y="changes" then some (.ref (L .changes))else if y="marks" then some (.ref (L .marks))else if y="made" then some (.int c.made)else none
def G9(L:AZ)(y:Str):Option AV:=
 if y="nodes" then some (.ref (L .nodes))else if y="numbers" then some (.ref (L .numbers))else if y="weights" then some (.ref (L .wts))else if y="depths" then some (.ref (L .dps))else none
def Ix(L:AZ)(y:Str):Option AV:=
 if y="above" then some (.ref (L .uab))else if y="lots" then some (.ref (L .ulots))else if y="merged" then some (.ref (L .merged))else none
def Aw(c:HS)(L:AZ):Slot→Option AO
 |.hp=>some (.inst 460 (L .hdx))
 |.hdx=>some (.ns 11 (DW c L))
 |.bk=>some (.inst 174 (L .bdx))
 |.bdx=>some (.ns 4 (G9 L))
 |.un=>some (.inst 256 (L .udx))
 |.udx=>some (.ns 3 (Ix L))
 |.nodes=>some (.list (c.nodes.map fun n=>B1 n.key))
 |.numbers=>some (.dictT (c.nums.map fun p=>(p.1.key,.int (p.2:Nat))))
 |.wts=>some (.list (BH c.wts))
 |.dps=>some (.list (BH c.dps))
 |.uab=>some (.list (nats c.uab))
 |.ulots=>some (.list ((B6 c.lots.length).map fun i=>.ref (L (.ulot i))))
 |.ulot i=>c.lots[i]?.map fun l=>.list (nats l)
 |.merged=>some (.list (c.merged.map fun p=>.tup [.int p.1,.int p.2]))
 |.edges=>some (.list c.edges)
 |.forest=>some (.list (nats c.forest))
 |.known=>some (.dictT (c.known.map fun p=>(p.1.key,.int p.2)))
 |.above=>some (.dictI (c.abo.map fun p=>((p.1:Int),.ref (L (.abv p.1)))))
 |.abv i=>(AH c.abo i).map fun l=>.list (nats l)
 |.waiting=>some (.list (nats c.waiting))
 |.changes=>some (.list (c.changes.zipIdx.map fun p=>FP L p.2 p.1))
 |.users j=>c.changes[j]?.bind fun ch=>match ch with|.edge _ _ _ m=>some (.list (nats m))|_=>none
 |.marks=>some (.list (c.marks.zipIdx.map fun p=>.tup [.int p.1.1,.ref (L (.mark p.2))]))
 |.mark j=>c.marks[j]?.map fun p=>.list (nats p.2)
structure AS(σ:AA)(L:AZ)(c:HS):Prop where
 at_:∀s x,Aw c L s=some x→σ (L s)=some x
 inj:∀s t,Aw c L s≠none→Aw c L t≠none→L s=L t→s=t
 n1:L .numbers≠1∧L .known≠1∧L .above≠1
def A8(c:HS)(L:AZ)(a:AB):Prop:=∃s,Aw c L s≠none∧L s=a
structure Fm(σ:AA)(c:HS)(L:AZ)(σ':AA)(c':HS)(L':AZ):Prop where
 keep:∀a,σ a≠none→¬A8 c L a→σ' a=σ a
 foot:∀a,A8 c' L' a→A8 c L a∨σ a=none
 root:L' .hp=L .hp
theorem Fm.refl(σ:AA)(c:HS)(L:AZ):Fm σ c L σ c L:=⟨fun m m m=>rfl,fun m h=>.inl h,rfl⟩
theorem Fm.trans{c c' m:HS}{L L' a0:AZ}(x:Fm σ c L σ' c' L')(y:Fm σ' c' L' σ'' m a0):Fm σ c L σ'' m a0:=by
 have out:∀a,σ a≠none→¬A8 c L a→¬A8 c' L' a:=fun a n f q=>(x.foot a q).elim f n;refine⟨fun a n f=>?_,fun a q=>?_,y.root.trans x.root⟩
 ·have e:=x.keep a n f;rw[y.keep a (by rw[e];exact n) (out a n f),e]
 ·rcases y.foot a q with h|h
  ·exact x.foot a h
  ·by_cases f:A8 c L a
   ·exact .inl f
   ·refine .inr ?_;cases z:σ a with
    |none=>rfl
    |some v=>rw[x.keep a (by rw[z];exact Ag _) f,z]at h;exact Bh h
variable {c c':HS} {L L':AZ}
theorem AS.foot(R:AS σ L c)(h:A8 c L a):σ a≠none:=by
 refine AI h fun s hs m=>?_;subst m;refine AY (ER.mp hs) fun x n=>?_;rw[R.at_ s x n];exact Ag _
theorem AS.upd(R:AS σ L c)(s₀:Slot)(h0:Aw c L s₀≠none)(h:Aw c' L s₀=some x)(hs:∀s,s≠s₀→∀y,Aw c' L s=some y→Aw c L s=some y):AS (Internal.upd σ (L s₀) x) L c':=by
 have m:∀s,Aw c' L s≠none→Aw c L s≠none:=fun s q=>by
  by_cases e:s=s₀
  ·rw[e];exact h0
  ·refine AY (ER.mp q) fun y n=>?_;rw[hs s e y n];exact Ag _
 refine⟨fun s y n=>?_,fun s t a b e=>R.inj s t (m s a) (m t b) e,R.n1⟩;by_cases e:s=s₀
 ·subst e;obtain rfl:=Ao ((h.symm.trans n));exact Am _ _ _
 ·have e1:=hs s e y n;rw[Au _ _ (fun q=>e (R.inj s s₀ (by rw[e1];exact Ag _) h0 q))];exact R.at_ s y e1
theorem AS.updFm(R:AS σ L c)(s₀:Slot)(h0:Aw c L s₀≠none)(hs:∀s,Aw c' L s≠none→Aw c L s≠none):Fm σ c L (Internal.upd σ (L s₀) x) c' L:=
 ⟨fun a n f=>Au _ _ fun e=>f ⟨s₀,h0,e.symm⟩,fun a m=>AI m fun s q e=>.inl ⟨s,hs s q,e⟩,rfl⟩
theorem AS.beside(R:AS σ L c){a:AB}{x:AO}(n:σ a=none):AS (Internal.upd σ a x) L c:=
 ⟨fun s y m=>by rw[Au _ _ (fun e=>by have:=R.at_ s y m;rw[e,n]at this;exact As this)];exact R.at_ s y m,R.inj,R.n1⟩
theorem Fm.beside{a:AB}{x:AO}(n:σ a=none):Fm σ c L (upd σ a x) c L:=⟨fun b h m=>Au _ _ fun e=>h (e▸n),fun m h=>.inl h,rfl⟩
theorem AS.out(R:AS σ L c)(n:σ a=none):¬A8 c L a:=fun h=>R.foot h n
theorem AS.other(R:AS σ L c)(k:∀a,A8 c L a→σ' a=σ a):AS σ' L c:=
 ⟨fun s y m=>by rw[k _ ⟨s,by rw[m];exact Ag _,rfl⟩];exact R.at_ s y m,R.inj,R.n1⟩
theorem AS.attach(R:AS σ L c)(s₀ s₁:Slot){a:AB}{x y:AO}(ha:σ a=some x)(na:¬A8 c L a)(h1:Aw c L s₁≠none)(ne:s₁≠s₀)(e0:Aw c' (L.put s₀ a) s₀=some x)(e1:Aw c' (L.put s₀ a) s₁=some y)
  (hs:∀s,s≠s₀→s≠s₁→∀z,Aw c' (L.put s₀ a) s=some z→Aw c L s=some z)(hn:s₀≠.numbers∧s₀≠.known∧s₀≠.above):AS (Internal.upd σ (L s₁) y) (L.put s₀ a) c':=by
 have n:∀s,Aw c L s≠none→L s≠a:=fun s q e=>na ⟨s,q,e⟩;have m:∀s,s≠s₀→Aw c' (L.put s₀ a) s≠none→Aw c L s≠none:=fun s q0 q=>by
  by_cases e:s=s₁
  ·rw[e];exact h1
  ·refine AY (ER.mp q) fun z hz=>?_;rw[hs s q0 e z hz];exact Ag _
 refine⟨fun s z hz=>?_,fun s t p q e=>?_,?_⟩
 ·by_cases q0:s=s₀
  ·subst q0;obtain rfl:=Ao ((e0.symm.trans hz));rw[Fn,Au _ _ (fun e=>n s₁ h1 e.symm)];exact ha
  ·rw[Bd _ _ q0];by_cases q1:s=s₁
   ·subst q1;obtain rfl:=Ao ((e1.symm.trans hz));exact Am _ _ _
   ·have a0:=hs s q0 q1 z hz;rw[Au _ _ (fun e=>q1 (R.inj s s₁ (by rw[a0];exact Ag _) h1 e))];exact R.at_ s z a0
 ·by_cases s0:s=s₀<;>by_cases t0:t=s₀
  ·rw[s0,t0]
  ·exfalso;rw[s0,Fn,Bd _ _ t0]at e;exact n t (m t t0 q) e.symm
  ·exfalso;rw[t0,Fn,Bd _ _ s0]at e;exact n s (m s s0 p) e
  ·rw[Bd _ _ s0,Bd _ _ t0]at e;exact R.inj s t (m s s0 p) (m t t0 q) e
 ·rw[Bd _ _ (Ne.symm hn.1),Bd _ _ (Ne.symm hn.2.1),Bd _ _ (Ne.symm hn.2.2)];exact R.n1
theorem Zef(R:AS σ L c)(s₀ s₁:Slot){a:AB}{x y:AO}{τ:AA}(a0:Fm τ c L σ c L)(na:τ a=none)(h1:Aw c L s₁≠none)(n0:s₀≠.hp)
  (hs:∀s,s≠s₀→Aw c' (L.put s₀ a) s≠none→Aw c L s≠none):Fm τ c L (Internal.upd σ (L s₁) y) c' (L.put s₀ a):=by
 refine⟨fun b n f=>?_,fun b m=>AI m fun s q e=>?_,Bd _ _ (Ne.symm n0)⟩
 ·rw[Au _ _ (fun e=>f ⟨s₁,h1,e.symm⟩)];exact a0.keep b n f
 ·by_cases s0:s=s₀
  ·subst s0;rw[Fn]at e;exact .inr (e▸na)
  ·rw[Bd _ _ s0]at e;exact .inl ⟨s,hs s s0 q,e⟩
def De:HS:=⟨[],[],[],[],[],[],[],[],[],[],[],[],[],[],0,0⟩
end
set_option genInjectivity false
def bV(w:AD):{fd:Ai // Ak w 67 fd}:=⟨_,⟨_,_,rfl⟩,∅⟩
def l6(w:AD):Ai:=(bV w).1
theorem ZP(w:AD):Ak w 67 (l6 w):=(bV w).2
def Z3(w:AD):{fd:Ai // Ak w 86 fd}:=⟨_,⟨_,_,rfl⟩,∅⟩
def vT(w:AD):Ai:=(Z3 w).1
theorem lL(w:AD):Ak w 86 (vT w):=(Z3 w).2
def gZ(w:AD):{fd:Ai // Ak w 93 fd}:=⟨_,⟨_,_,rfl⟩,∅⟩
def nJ(w:AD):Ai:=(gZ w).1
theorem cZ(w:AD):Ak w 93 (nJ w):=(gZ w).2
def Z7(w:AD):{fd:Ai // Ak w 98 fd}:=⟨_,⟨_,_,rfl⟩,∅⟩
def rl(w:AD):Ai:=(Z7 w).1
theorem S5(w:AD):Ak w 98 (rl w):=(Z7 w).2
def fj(w:AD):{fd:Ai // Ak w 105 fd}:=⟨_,⟨_,_,rfl⟩,∅⟩
def xl(w:AD):Ai:=(fj w).1
theorem aA(w:AD):Ak w 105 (xl w):=(fj w).2
def V2(w:AD):{fd:Ai // Ak w 124 fd}:=⟨_,⟨_,_,rfl⟩,∅⟩
def gK(w:AD):Ai:=(V2 w).1
theorem Zb7(w:AD):Ak w 124 (gK w):=(V2 w).2
def cA(w:AD):{fd:Ai // Ak w 131 fd}:=⟨_,⟨_,_,rfl⟩,∅⟩
def yj(w:AD):Ai:=(cA w).1
theorem cJ(w:AD):Ak w 131 (yj w):=(cA w).2
def VC(w:AD):{fd:Ai // Ak w 138 fd}:=⟨_,⟨_,_,rfl⟩,∅⟩
def pX(w:AD):Ai:=(VC w).1
theorem fg(w:AD):Ak w 138 (pX w):=(VC w).2
def ZU(w:AD):{fd:Ai // Ak w 192 fd}:=⟨_,⟨_,_,rfl⟩,∅⟩
def wE(w:AD):Ai:=(ZU w).1
theorem sG(w:AD):Ak w 192 (wE w):=(ZU w).2
def bM(w:AD):{fd:Ai // Ak w 199 fd}:=⟨_,⟨_,_,rfl⟩,∅⟩
def mZ(w:AD):Ai:=(bM w).1
theorem aY(w:AD):Ak w 199 (mZ w):=(bM w).2
def bf(w:AD):{fd:Ai // Ak w 206 fd}:=⟨_,⟨_,_,rfl⟩,∅⟩
def qt(w:AD):Ai:=(bf w).1
theorem Wd(w:AD):Ak w 206 (qt w):=(bf w).2
def dj(w:AD):{fd:Ai // Ak w 213 fd}:=⟨_,⟨_,_,rfl⟩,∅⟩
def Ut(w:AD):Ai:=(dj w).1
theorem Ox(w:AD):Ak w 213 (Ut w):=(dj w).2
def cV(w:AD):{fd:Ai // Ak w 220 fd}:=⟨_,⟨_,_,rfl⟩,∅⟩
def mV(w:AD):Ai:=(cV w).1
theorem Zx(w:AD):Ak w 220 (mV w):=(cV w).2
def cG(w:AD):{fd:Ai // Ak w 227 fd}:=⟨_,⟨_,_,rfl⟩,∅⟩
def xy(w:AD):Ai:=(cG w).1
theorem fX(w:AD):Ak w 227 (xy w):=(cG w).2
def eL(w:AD):{fd:Ai // Ak w 232 fd}:=⟨_,⟨_,_,rfl⟩,∅⟩
def yb(w:AD):Ai:=(eL w).1
theorem bj(w:AD):Ak w 232 (yb w):=(eL w).2
def ag(w:AD):{fd:Ai // Ak w 246 fd}:=⟨_,⟨_,_,rfl⟩,∅⟩
def WU(w:AD):Ai:=(ag w).1
theorem cm(w:AD):Ak w 246 (WU w):=(ag w).2
def Uz(w:AD):{fd:Ai // Ak w 253 fd}:=⟨_,⟨_,_,rfl⟩,∅⟩
def ot(w:AD):Ai:=(Uz w).1
theorem zw(w:AD):Ak w 253 (ot w):=(Uz w).2
def ZV(w:AD):{fd:Ai // Ak w 274 fd}:=⟨_,⟨_,_,rfl⟩,∅⟩
def oW(w:AD):Ai:=(ZV w).1
theorem qd(w:AD):Ak w 274 (oW w):=(ZV w).2
def Zg(w:AD):{fd:Ai // Ak w 281 fd}:=⟨_,⟨_,_,rfl⟩,∅⟩
def Zb1(w:AD):Ai:=(Zg w).1
theorem Md(w:AD):Ak w 281 (Zb1 w):=(Zg w).2
def SX(w:AD):{fd:Ai // Ak w 286 fd}:=⟨_,⟨_,_,rfl⟩,∅⟩
def pJ(w:AD):Ai:=(SX w).1
theorem lu(w:AD):Ak w 286 (pJ w):=(SX w).2
def dG(w:AD):{fd:Ai // Ak w 291 fd}:=⟨_,⟨_,_,rfl⟩,∅⟩
def Zcc(w:AD):Ai:=(dG w).1
theorem Ri(w:AD):Ak w 291 (Zcc w):=(dG w).2
def eM(w:AD):{fd:Ai // Ak w 296 fd}:=⟨_,⟨_,_,rfl⟩,∅⟩
def wZ(w:AD):Ai:=(eM w).1
theorem d7(w:AD):Ak w 296 (wZ w):=(eM w).2
def RV(w:AD):{fd:Ai // Ak w 303 fd}:=⟨_,⟨_,_,rfl⟩,∅⟩
def Rj(w:AD):{fd:Ai // Ak w 310 fd}:=⟨_,⟨_,_,rfl⟩,∅⟩
def zB(w:AD):Ai:=(Rj w).1
theorem Ha(w:AD):Ak w 310 (zB w):=(Rj w).2
def ZG(w:AD):{fd:Ai // Ak w 317 fd}:=⟨_,⟨_,_,rfl⟩,∅⟩
def qb(w:AD):Ai:=(ZG w).1
theorem dW(w:AD):Ak w 317 (qb w):=(ZG w).2
def gb(w:AD):{fd:Ai // Ak w 324 fd}:=⟨_,⟨_,_,rfl⟩,∅⟩
def lX(w:AD):Ai:=(gb w).1
theorem Vd(w:AD):Ak w 324 (lX w):=(gb w).2
def gA(w:AD):{fd:Ai // Ak w 331 fd}:=⟨_,⟨_,_,rfl⟩,∅⟩
def xn(w:AD):Ai:=(gA w).1
theorem nr(w:AD):Ak w 331 (xn w):=(gA w).2
def dz(w:AD):{fd:Ai // Ak w 338 fd}:=⟨_,⟨_,_,rfl⟩,∅⟩
def yZ(w:AD):Ai:=(dz w).1
theorem Ot(w:AD):Ak w 338 (yZ w):=(dz w).2
def ZD(w:AD):{fd:Ai // Ak w 352 fd}:=⟨_,⟨_,_,rfl⟩,∅⟩
def zK(w:AD):Ai:=(ZD w).1
theorem OY(w:AD):Ak w 352 (zK w):=(ZD w).2
def eO(w:AD):{fd:Ai // Ak w 378 fd}:=⟨_,⟨_,_,rfl⟩,∅⟩
def vY(w:AD):Ai:=(eO w).1
theorem bS(w:AD):Ak w 378 (vY w):=(eO w).2
def cN(w:AD):{fd:Ai // Ak w 385 fd}:=⟨_,⟨_,_,rfl⟩,∅⟩
def zX(w:AD):Ai:=(cN w).1
theorem ZB(w:AD):Ak w 385 (zX w):=(cN w).2
def cU(w:AD):{fd:Ai // Ak w 408 fd}:=⟨_,⟨_,_,rfl⟩,∅⟩
def Zv(w:AD):Ai:=(cU w).1
theorem bg(w:AD):Ak w 408 (Zv w):=(cU w).2
def Zk(w:AD):{fd:Ai // Ak w 415 fd}:=⟨_,⟨_,_,rfl⟩,∅⟩
def vL(w:AD):Ai:=(Zk w).1
theorem V0(w:AD):Ak w 415 (vL w):=(Zk w).2
def Zp(w:AD):{fd:Ai // Ak w 422 fd}:=⟨_,⟨_,_,rfl⟩,∅⟩
def pL(w:AD):Ai:=(Zp w).1
theorem XB(w:AD):Ak w 422 (pL w):=(Zp w).2
def bI(w:AD):{fd:Ai // Ak w 429 fd}:=⟨_,⟨_,_,rfl⟩,∅⟩
def uI(w:AD):Ai:=(bI w).1
theorem PP(w:AD):Ak w 429 (uI w):=(bI w).2
def GF(w:AD):{fd:Ai // Ak w 437 fd}:=⟨_,⟨_,_,rfl⟩,∅⟩
def fF(w:AD):Ai:=(GF w).1
theorem eV(w:AD):Ak w 437 (fF w):=(GF w).2
def WB(w:AD):{fd:Ai // Ak w 445 fd}:=⟨_,⟨_,_,rfl⟩,∅⟩
def gO(w:AD):Ai:=(WB w).1
theorem UV(w:AD):Ak w 445 (gO w):=(WB w).2
def VU(w:AD):{fd:Ai // Ak w 450 fd}:=⟨_,⟨_,_,rfl⟩,∅⟩
def mY(w:AD):Ai:=(VU w).1
theorem lU(w:AD):Ak w 450 (mY w):=(VU w).2
def fb(w:AD):{fd:Ai // Ak w 457 fd}:=⟨_,⟨_,_,rfl⟩,∅⟩
def nB(w:AD):Ai:=(fb w).1
theorem R6(w:AD):Ak w 457 (nB w):=(fb w).2
def gk(w:AD):{fd:Ai // Ak w 476 fd}:=⟨_,⟨_,_,rfl⟩,∅⟩
def qV(w:AD):Ai:=(gk w).1
theorem yV(w:AD):Ak w 476 (qV w):=(gk w).2
def f9(w:AD):{fd:Ai // Ak w 481 fd}:=⟨_,⟨_,_,rfl⟩,∅⟩
def Zb5(w:AD):Ai:=(f9 w).1
theorem Mg(w:AD):Ak w 481 (Zb5 w):=(f9 w).2
def dn(w:AD):{fd:Ai // Ak w 488 fd}:=⟨_,⟨_,_,rfl⟩,∅⟩
def zr(w:AD):Ai:=(dn w).1
theorem TD(w:AD):Ak w 488 (zr w):=(dn w).2
def gX(w:AD):{fd:Ai // Ak w 493 fd}:=⟨_,⟨_,_,rfl⟩,∅⟩
def qX(w:AD):Ai:=(gX w).1
theorem SL(w:AD):Ak w 493 (qX w):=(gX w).2
def aG(w:AD):{fd:Ai // Ak w 528 fd}:=⟨_,⟨_,_,rfl⟩,∅⟩
def mi(w:AD):Ai:=(aG w).1
theorem Rh(w:AD):Ak w 528 (mi w):=(aG w).2
def ap(w:AD):{fd:Ai // Ak w 535 fd}:=⟨_,⟨_,_,rfl⟩,∅⟩
def nc(w:AD):Ai:=(ap w).1
theorem eI(w:AD):Ak w 535 (nc w):=(ap w).2
def ZQ(w:AD):{fd:Ai // Ak w 540 fd}:=⟨_,⟨_,_,rfl⟩,∅⟩
def yR(w:AD):Ai:=(ZQ w).1
theorem Ua(w:AD):Ak w 540 (yR w):=(ZQ w).2
def Y3(w:AD):{fd:Ai // Ak w 545 fd}:=⟨_,⟨_,_,rfl⟩,∅⟩
def xi(w:AD):Ai:=(Y3 w).1
theorem XQ(w:AD):Ak w 545 (xi w):=(Y3 w).2
def cC(w:AD):{fd:Ai // Ak w 552 fd}:=⟨_,⟨_,_,rfl⟩,∅⟩
def Zbo(w:AD):Ai:=(cC w).1
theorem cy(w:AD):Ak w 552 (Zbo w):=(cC w).2
def an(w:AD):{fd:Ai // Ak w 557 fd}:=⟨_,⟨_,_,rfl⟩,∅⟩
def PZ(w:AD):Ai:=(an w).1
theorem fA(w:AD):Ak w 557 (PZ w):=(an w).2
def ZL(w:AD):{fd:Ai // Ak w 562 fd}:=⟨_,⟨_,_,rfl⟩,∅⟩
def oN(w:AD):Ai:=(ZL w).1
theorem WW(w:AD):Ak w 562 (oN w):=(ZL w).2
def cR(w:AD):{fd:Ai // Ak w 567 fd}:=⟨_,⟨_,_,rfl⟩,∅⟩
def J9(w:AD):Ai:=(cR w).1
theorem Za5(w:AD):Ak w 567 (J9 w):=(cR w).2
def JQ(w:AD):{fd:Ai // Ak w 37 fd}:=⟨_,⟨_,_,rfl⟩,∅⟩
theorem JJ(w:AD):DF w 174 "nodes":=⟨∅,∅,∅⟩
theorem n9(w:AD):DL w 174 "nodes":=⟨∅,∅,∅,∅⟩
theorem PY(w:AD):DF w 174 "numbers":=⟨∅,∅,∅⟩
theorem vm(w:AD):DL w 174 "numbers":=⟨∅,∅,∅,∅⟩
theorem Uk(w:AD):DF w 174 "weights":=⟨∅,∅,∅⟩
theorem lS(w:AD):DL w 174 "weights":=⟨∅,∅,∅,∅⟩
theorem WH(w:AD):DF w 174 "depths":=⟨∅,∅,∅⟩
theorem pr(w:AD):DL w 174 "depths":=⟨∅,∅,∅,∅⟩
theorem Hd(w:AD):DF w 256 "above":=⟨∅,∅,∅⟩
theorem qy(w:AD):DL w 256 "above":=⟨∅,∅,∅,∅⟩
theorem LS(w:AD):DF w 256 "lots":=⟨∅,∅,∅⟩
theorem wt(w:AD):DL w 256 "lots":=⟨∅,∅,∅,∅⟩
theorem OT(w:AD):DF w 256 "merged":=⟨∅,∅,∅⟩
theorem mS(w:AD):DL w 256 "merged":=⟨∅,∅,∅,∅⟩
theorem LR(w:AD):DF w 460 "bank":=⟨∅,∅,∅⟩
theorem ro(w:AD):DL w 460 "bank":=⟨∅,∅,∅,∅⟩
theorem JT(w:AD):DF w 460 "unions":=⟨∅,∅,∅⟩
theorem oj(w:AD):DL w 460 "unions":=⟨∅,∅,∅,∅⟩
theorem OU(w:AD):DF w 460 "edges":=⟨∅,∅,∅⟩
theorem wB(w:AD):DL w 460 "edges":=⟨∅,∅,∅,∅⟩
theorem VG(w:AD):DF w 460 "forest":=⟨∅,∅,∅⟩
theorem mC(w:AD):DL w 460 "forest":=⟨∅,∅,∅,∅⟩
theorem Ss(w:AD):DF w 460 "known":=⟨∅,∅,∅⟩
theorem qw(w:AD):DL w 460 "known":=⟨∅,∅,∅,∅⟩
theorem GH(w:AD):DF w 460 "above":=⟨∅,∅,∅⟩
theorem rD(w:AD):DL w 460 "above":=⟨∅,∅,∅,∅⟩
theorem OQ(w:AD):DF w 460 "waiting":=⟨∅,∅,∅⟩
theorem fS(w:AD):DL w 460 "waiting":=⟨∅,∅,∅,∅⟩
theorem Za7(w:AD):DF w 460 "backs":=⟨∅,∅,∅⟩
theorem ez(w:AD):DL w 460 "backs":=⟨∅,∅,∅,∅⟩
theorem Jd(w:AD):DF w 460 "changes":=⟨∅,∅,∅⟩
theorem rC(w:AD):DL w 460 "changes":=⟨∅,∅,∅,∅⟩
theorem Qj(w:AD):DF w 460 "marks":=⟨∅,∅,∅⟩
theorem kY(w:AD):DL w 460 "marks":=⟨∅,∅,∅,∅⟩
theorem sk(w:AD):DF w 460 "made":=⟨∅,∅,∅⟩
theorem U0(w:AD):DL w 460 "made":=⟨∅,∅,∅,∅⟩
theorem Fj(w:AD):DF w 517 "heap":=⟨∅,∅,∅⟩
theorem sD(w:AD):DL w 517 "heap":=⟨∅,∅,∅,∅⟩
theorem ou(w:AD):B5 w 174 "size" 93:=⟨∅,∅⟩
theorem aZ(w:AD):B5 w 174 "take" 98:=⟨∅,∅⟩
theorem uE(w:AD):B5 w 174 "require" 105:=⟨∅,∅⟩
theorem ti(w:AD):B5 w 174 "cut" 124:=⟨∅,∅⟩
theorem qU(w:AD):B5 w 174 "op" 131:=⟨∅,∅⟩
theorem cE(w:AD):B5 w 174 "kids" 138:=⟨∅,∅⟩
theorem lq(w:AD):B5 w 256 "make" 199:=⟨∅,∅⟩
theorem cz(w:AD):B5 w 256 "size" 206:=⟨∅,∅⟩
theorem Su(w:AD):B5 w 256 "find" 213:=⟨∅,∅⟩
theorem qD(w:AD):B5 w 256 "merge" 220:=⟨∅,∅⟩
theorem re(w:AD):B5 w 256 "members" 227:=⟨∅,∅⟩
theorem uc(w:AD):B5 w 256 "classes" 232:=⟨∅,∅⟩
theorem qK(w:AD):B5 w 256 "back" 246:=⟨∅,∅⟩
theorem qf(w:AD):B5 w 256 "cut" 253:=⟨∅,∅⟩
theorem Oy(w:AD):B5 w 460 "size" 281:=⟨∅,∅⟩
theorem dR(w:AD):B5 w 460 "node" 286:=⟨∅,∅⟩
theorem cF(w:AD):B5 w 460 "add" 291:=⟨∅,∅⟩
theorem qY(w:AD):B5 w 460 "put" 296:=⟨∅,∅⟩
theorem HD(w:AD):B5 w 460 "find" 310:=⟨∅,∅⟩
theorem r8(w:AD):B5 w 460 "are_like" 317:=⟨∅,∅⟩
theorem ZY(w:AD):B5 w 460 "merge" 324:=⟨∅,∅⟩
theorem R4(w:AD):B5 w 460 "settle" 338:=⟨∅,∅⟩
theorem Ql(w:AD):B5 w 460 "classes" 352:=⟨∅,∅⟩
theorem rH(w:AD):B5 w 460 "seek" 378:=⟨∅,∅⟩
theorem nW(w:AD):B5 w 460 "users" 385:=⟨∅,∅⟩
theorem de(w:AD):B5 w 460 "depth" 415:=⟨∅,∅⟩
theorem gM(w:AD):B5 w 460 "push" 422:=⟨∅,∅⟩
theorem Rz(w:AD):B5 w 460 "pop" 429:=⟨∅,∅⟩
theorem aw(w:AD):B5 w 460 "look_at" 437:=⟨∅,∅⟩
theorem ZI(w:AD):B5 w 460 "join" 445:=⟨∅,∅⟩
theorem nZ(w:AD):B5 w 460 "unmake" 450:=⟨∅,∅⟩
theorem bm(w:AD):B5 w 460 "unjoin" 457:=⟨∅,∅⟩
theorem Sr(w:AD):B5 w 517 "tried" 481:=⟨∅,∅⟩
theorem bT(w:AD):B5 w 517 "would" 488:=⟨∅,∅⟩
theorem f6(w:AD):B5 w 517 "joined_by" 493:=⟨∅,∅⟩
theorem vN(w:AD):Pq w 174 86:=⟨∅,∅,∅⟩
theorem og(w:AD):Pq w 256 192:=⟨∅,∅,∅⟩
theorem rW(w:AD):Pq w 460 408:=⟨∅,∅,∅⟩
theorem rS(w:AD):Pq w 517 476:=⟨∅,∅,∅⟩
section
variable {σ σ' σ'' τ τ':AA} {A:AX} {env:Af} {ρ:AW} {c c':HS} {L L':AZ}
theorem FT{x m:Str}{p a0:A3}{a C dx:AB}{n:Nat}{fs:Str→Option AV}{av:AV}{Φ:AV→AA→Prop}(B:Aj)(hx:ρ x=some (.ref a))(I:Du σ a C dx n fs)(ok:DF w C m)(hf:fs m=some av)(q:Φ av σ)
  (hk:autoParam (env.kindOf x=some .local) aR)(hv:MX av:=by trivial)(a1:autoParam (env.scope.kind=.function) aR)(hd:autoParam ((x==("__debug__":Str))=false) aD)
  (he:autoParam (∀env,A0 (.Attribute (.Name x p) m a0) env=(do
   let o ←A0 (.Name x p) env
   Cp a0.atName
   let r ←CW [o] (Lv o m true)
   Lw (.Name x p) o r
   pure r)) aW):EV A env (.Attribute (.Name x p) m a0) ρ σ Φ:=
 TW B (DI hx hk ⟨_,_,_,_,_,_,rfl,I,ok,hf,hv,q⟩ a1 hd) he
theorem iR{x m:Str}(B:Aj)(hx:ρ x=some (.ref a))(I:Du σ a C dx n fs)(ok:DF w C m)(hf:fs m=some av)(q:Φ av σ)
  (hk:autoParam (env.kindOf x=some .cell) aR)(hv:MX av:=by trivial)(a1:autoParam (env.scope.kind=.function) aR)(hd:autoParam ((x==("__debug__":Str))=false) aD)
  (he:autoParam (∀env,A0 (.Attribute (.Name x p) m a0) env=(do
   let o ←A0 (.Name x p) env
   Cp a0.atName
   let r ←CW [o] (Lv o m true)
   Lw (.Name x p) o r
   pure r)) aW):EV A env (.Attribute (.Name x p) m a0) ρ σ Φ:=
 TW B (EV.cell hx hk ⟨_,_,_,_,_,_,rfl,I,ok,hf,hv,q⟩ a1 hd) he
def Ck:Option FV→Bool
 |some .local=>true
 |some .cell=>true
 |_=>false
theorem AG{x:Str}{n:A3}{av:AV}{Φ:AV→AA→Prop}(hv:ρ x=some av)(q:Φ av σ)(m:autoParam (Ck (env.kindOf x)=true) aR)(hk:autoParam (env.scope.kind=.function) aR)(hd:autoParam ((x==("__debug__":Str))=false) aD):EV A env (.Name x n) ρ σ Φ:=by
 cases e:env.kindOf x with
 |none=>rw[e]at m;cases m
 |some k=>
  cases k<;>first|exact DI hv e q hk hd|exact EV.cell hv e q hk hd|(rw[e]at m;cases m)
def d0(env:Af)(x:Str):Bool:=env.kindOf x==some .local||(env.kindOf x==some .cell&&(env.cells.lookup x).isSome)
theorem A2{x:Str}{n:A3}{av:AV}{Φ:AW→AA→Prop}(q:Φ (put ρ x av) σ)(m:autoParam (d0 env x=true) aR)(hk:autoParam (env.scope.kind=.function) aR):AQ A env (Fs (.Name x n) env) av ρ σ Φ:=by
 unfold d0 at m;rw[Bool.or_eq_true,Fq,beq_iff_eq,beq_iff_eq]at m;rcases m with h|⟨h,k⟩
 ·exact Nc h q hk
 ·exact AQ.cell h k q hk
theorem BM{x m:Str}(B:Aj)(hx:ρ x=some (.ref a))(I:Du σ a C dx n fs)(ok:DF w C m)(hf:fs m=some av)(q:Φ av σ)
  (hk:autoParam (Ck (env.kindOf x)=true) aR)(hv:MX av:=by trivial)(a1:autoParam (env.scope.kind=.function) aR)(hd:autoParam ((x==("__debug__":Str))=false) aD)
  (he:autoParam (∀env,A0 (.Attribute (.Name x p) m a0) env=(do
   let o ←A0 (.Name x p) env
   Cp a0.atName
   let r ←CW [o] (Lv o m true)
   Lw (.Name x p) o r
   pure r)) aW):EV A env (.Attribute (.Name x p) m a0) ρ σ Φ:=
 TW B (AG hx ⟨_,_,_,_,_,_,rfl,I,ok,hf,hv,q⟩ hk a1 hd) he
theorem HM{x m y:Str}{T id:String}(B:Aj)(hx:ρ x=some (.ref a))(I:Du σ a C dx n fs)(ok:DF w C m)(hf:fs m=some ov)(hy:ρ y=some iv)(hs:Hx σ ov T id)(q:AM A Ip ov iv σ Φ)
  (hk:autoParam (Ck (env.kindOf x)=true) aR)(a2:autoParam (Ck (env.kindOf y)=true) aR)(hv:MX ov:=by trivial)(a0:autoParam (env.scope.kind=.function) aR)(hd:autoParam ((x==("__debug__":Str))=false) aD)(a3:autoParam ((y==("__debug__":Str))=false) aD)
  (he:autoParam (∀env,A0 (.Attribute (.Name x p) m a1) env=(do
   let o ←A0 (.Name x p) env
   Cp a1.atName
   let r ←CW [o] (Lv o m true)
   Lw (.Name x p) o r
   pure r)) aW):EV A env (.Subscript (.Attribute (.Name x p) m a1) (.Name y p3) p4) ρ σ Φ:=
 CV (BM B hx I ok hf (AG hy ⟨⟨T,id,hs⟩,q⟩ a2 a0 a3) hk hv a0 hd he)
abbrev Zh(Φ:List AV→AA→Prop):AV→AA→Prop:=fun x σ=>Φ [x] σ
abbrev aq(A:AX)(env:Af)(f:Expr)(ρ:AW)(Φ:List AV→AA→Prop):AV→AA→Prop:=fun x σ=>EV A env f ρ σ (Zh (Vo Φ x))
abbrev sQ(A:AX)(env:Af)(f g:Expr)(ρ:AW)(Φ:List AV→AA→Prop):AV→AA→Prop:=fun x σ=>EV A env f ρ σ (aq A env g ρ (Vo Φ x))
theorem Ab(k:EV A env e ρ σ (Zh Φ))(n:autoParam (∀env,Bb [e] env=(false,A0 e env)::Bb [] env) aI):AC A env a0 [e] ρ σ Φ:=
 .cons (k.mono fun x m q=>.nil q) n
theorem BX(k:EV A env e ρ σ (aq A env f ρ Φ))(n:autoParam (∀env,Bb [e,f] env=(false,A0 e env)::Bb [f] env) aI)
  (hf:autoParam (∀env,Bb [f] env=(false,A0 f env)::Bb [] env) aI):AC A env a0 [e,f] ρ σ Φ:=
 .cons (k.mono fun x m q=>Ab q hf) n
theorem GT(k:EV A env e ρ σ (sQ A env f g ρ Φ))(n:autoParam (∀env,Bb [e,f,g] env=(false,A0 e env)::Bb [f,g] env) aI)
  (hf:autoParam (∀env,Bb [f,g] env=(false,A0 f env)::Bb [g] env) aI)(hg:autoParam (∀env,Bb [g] env=(false,A0 g env)::Bb [] env) aI):AC A env a0 [e,f,g] ρ σ Φ:=
 .cons (k.mono fun x m q=>BX q hf hg) n
theorem Bo{id:Str}(B:Aj)(e:Co (KK w) Bk id=some none)(hv:Gy id=some (.builtin m))
  (k:AC A env n args ρ σ fun xs σ₂=>AF A (.builtin m) xs σ₂ Φ)(hx:autoParam (env.kindOf id=some .globalImplicit) aR)(hn:autoParam (id≠"__name__") aD)(hk:autoParam (env.scope.kind=.function) aR)(hg:autoParam (env.globals=Bk) aR)(a0:autoParam (env.builtins=Tj) aR)
  (hd:autoParam ((id==("__debug__":Str))=false) aD)(hp:autoParam (CO args=true) aR):EV A env (.Call (.Name id p) args [] n) ρ σ Φ:=
 Lg B (Fl B e hv ⟨_,.bi _,k⟩ hn hx hk hg a0 hd) hp
theorem FF{id:Str}(B:Aj)(e:Co (KK w) Bk id=some none)(hv:Gy id=some (.type T))
  (k:AC A env m args ρ σ fun xs σ₂=>AF A (.type T) xs σ₂ Φ)(hx:autoParam (env.kindOf id=some .globalImplicit) aR)(hn:autoParam (id≠"__name__") aD)(hk:autoParam (env.scope.kind=.function) aR)(hg:autoParam (env.globals=Bk) aR)(n:autoParam (env.builtins=Tj) aR)
  (hd:autoParam ((id==("__debug__":Str))=false) aD)(hp:autoParam (CO args=true) aR):EV A env (.Call (.Name id p) args [] m) ρ σ Φ:=
 Lg B (Fl B e hv ⟨_,.ty _,k⟩ hn hx hk hg n hd) hp
theorem Cd{o:Expr}{a1 a0:A3}{args:List Expr}{name:Str}{id:String}{l:AB}{xs:List AV}{Φ:AV→AA→Prop}(a3:N5 "list" name id)(a4:No (.builtin id)=pure (.type "method_descriptor"))
  (k:EV A env o ρ σ fun ov m=>ov=.ref l∧m l=some (.list xs)∧AC A env a0 args ρ m fun ys σ₂=>AF A (.builtin id) (.ref l::ys) σ₂ Φ)(hp:autoParam (CO args=true) aR)
  {pl:Sem Bool}(he:autoParam (A0 (.Call (.Attribute o name a1) args [] a0) env=(do
   let ov ←A0 o env
   Cp a1.atName
   let(f,first) ←CW [ov] (GZ ov name pl)
   ES a0 f first (Dp a0 (Bb args env)) (H3 a0 (H4 [] env)))) aR):
  EV A env (.Call (.Attribute o name a1) args [] a0) ρ σ Φ:=
 TZ Zfq a3 a4 (k.mono fun ov m a2=>BN a2 fun e1 e2 q=>by
  subst e1;refine⟨fun s u g r=>?_,q⟩;obtain rfl:=Bi r;refine Cn ((g.own _ _ e2).2) fun items n o zz=>?_;exact⟨⟨_,o,rfl⟩,fun a e=>by obtain rfl:=Tu e;exact⟨_,o,rfl⟩⟩) hp he
theorem Cb(w:AD):Co (KK w) Bk "len"=some none:=∅
theorem Ca:Gy "len"=some (.builtin "len"):=∅
theorem MW(w:AD):Co (KK w) Bk "sorted"=some none:=∅
theorem Mp:Gy "sorted"=some (.builtin "sorted"):=∅
theorem Jf(w:AD):Co (KK w) Bk "range"=some none:=∅
theorem JS:Gy "range"=some (.type "range"):=∅
theorem Vg(w:AD):Co (KK w) Bk "max"=some none:=∅
theorem Wn:Gy "max"=some (.builtin "max"):=∅
theorem JD(w:AD):Co (KK w) Bk "tuple"=some none:=∅
theorem Jg:Gy "tuple"=some (.type "tuple"):=∅
theorem JR(w:AD):Co (KK w) Bk "list"=some none:=∅
theorem Jc:Gy "list"=some (.type "list"):=∅
theorem di(w:AD):Co (KK w) Bk "sum"=some none:=∅
theorem gE:Gy "sum"=some (.builtin "sum"):=∅
theorem AS.iU(R:AS σ L c):Du σ (L .un) 256 (L .udx) 3 (Ix L):=⟨R.at_ .un _ rfl,R.at_ .udx _ rfl⟩
theorem AS.iB(R:AS σ L c):Du σ (L .bk) 174 (L .bdx) 4 (G9 L):=⟨R.at_ .bk _ rfl,R.at_ .bdx _ rfl⟩
theorem AS.iH(R:AS σ L c):Du σ (L .hp) 460 (L .hdx) 11 (DW c L):=⟨R.at_ .hp _ rfl,R.at_ .hdx _ rfl⟩
theorem He:Ix L "above"=some (.ref (L .uab)):=by rfl
theorem LJ:Ix L "lots"=some (.ref (L .ulots)):=by rfl
theorem On:Ix L "merged"=some (.ref (L .merged)):=by rfl
def root(ab:List Nat)(a:Nat):Nat:=Nat.lt_wfRel.wf.fix (C:=fun _=>Nat) (fun a f=>if h:∃x,ab[a]? =some x∧x<a then f (ab[a]?.getD 0) (h.elim fun x p=>by rw[p.1];exact p.2)else a) a
theorem S7(ab:List Nat)(a:Nat):root ab a=if ∃x,ab[a]? =some x∧x<a then root ab (ab[a]?.getD 0)else a:=Nat.lt_wfRel.wf.fix_eq _ _
theorem LB{ab:List Nat}{a x:Nat}(e:ab[a]? =some x)(l:x<a):root ab a=root ab x:=by
 rw[S7,if_pos ⟨x,e,l⟩,e];rfl
theorem HA(e:ab[a]? =some a):root ab a=a:=by
 rw[S7,if_neg];rintro⟨x,m,l⟩;obtain rfl:=Ao ((e.symm.trans m));exact absurd l (EP _)
structure Bz(ab:List Nat):Prop where
 le:∀i x:Nat,ab[i]? =some x→x≤i
 sz:ab.length≤1000
theorem Jy(ab:List Nat):∀a,root ab a≤a:=fun a=>by
 induction a using Yt with
 |ind a m=>
  rw[S7];split
  ·rename_i h;refine AI h fun x e l=>?_;rw[e];exact AK (m x l) (QQ l)
  ·exact A9 _
theorem gH(U:Bz ab):∀{a},a<ab.length→ab[root ab a]? =some (root ab a):=fun{a}=>by
 induction a using Yt with
 |ind a n=>
  intro m;have e:ab[a]? =some ab[a]:=Dy m;have hl:=U.le a _ e;by_cases h:ab[a]<a
  ·rw[LB e h];exact n _ h (!AK h (Cy m))
  ·have:ab[a]=a:=by exact Ep hl (EU h)
   rw[this]at e;rw[HA e];exact e
theorem am{i x:Nat}(e:ns[i]? =some x):(nats ns)[((i:Int)).toNat]? =some (.int (x:Nat)):=by
 show(ns.map _)[i]? =_;rw[CK,e];rfl
theorem SY(B:Aj)(R:Ah A 1)(P:AS σ L c)(U:Bz c.uab)(ha:a<c.uab.length)(q:Φ (.int (root c.uab a:Nat)) σ):AF A (.ref 213) [.ref (L .un),.int a] σ Φ:=by
 refine AF.def (F:=(Ox w)) (names:=["self","a"]) B R rfl (fun Lf=>?_) (DG fun zz zz=>rfl) rfl ∅
 ·have e2:=P.at_ .uab _ rfl;refine AJ (Ll (fun m ρ' σ'=>∃i:Nat,m=i∧i<c.uab.length∧σ'=σ∧ρ' "self"=some (.ref (L .un))∧ρ' "a"=some (.int i)∧root c.uab i=root c.uab a) a ⟨a,rfl,ha,rfl,by rfl,by rfl,rfl⟩ ?_);rintro m ρ' σ' ⟨i,rfl,hi,rfl,r1,r2,er⟩;have hx:c.uab[m]? =some c.uab[m]:=Dy hi;have n:=U.le m _ hx;have a4:=U.sz;have item:∀{a3 a2 a0 a1}{Φ},Φ (.int (c.uab[m]:Nat)) σ'→EV (A.deeper (BA (Ut w) Lf 213)) (BA (Ut w) Lf 213) (((Yu "self" a3).Attribute "above" a2).Subscript (Yu "a" a0) a1) ρ' σ' Φ:=fun q=>
   CV (FT B r1 P.iU (Hd w) He (DI r2 () ⟨⟨_,_,.list e2⟩,En e2 (!A6 o0) (am hx) (!Al Za4 hi a4) q⟩))
  refine Bj (item (DI r2 () (NO (BO ?_))));by_cases h:c.uab[m]=m
  ·have:(not (decide (((c.uab[m]:Nat):Int)=(m:Int))))=false:=by simp[h]
   rw[this];simp only[HU,if_false];rw[h]at hx;rw[←er,HA hx]at q;exact AJ (CD (DI r2 () q))
  ·have:(not (decide (((c.uab[m]:Nat):Int)=(m:Int))))=true:=by simp;exact BS Zc2 hi h
   refine CQ this ?_;refine AJ (BR (item (Nc () ?_)));refine Ax ⟨c.uab[m],!BS fB hi n h,c.uab[m],rfl,!AK (CG n) hi,rfl,?_,if_pos rfl,?_⟩
   ·show(if _ then _ else _)=_;rw[if_neg ⋯];exact r1
   ·rw[←er];exact(LB hx (!BS fB hi n h)).symm
theorem iA(B:Aj)(R:Ah A 1)(P:AS σ L c)(U:Bz c.uab)(q:Φ (.int (c.uab.length:Nat)) σ):AF A (.ref 206) [.ref (L .un)] σ Φ:=by
 refine AF.def (F:=(Wd w)) (names:=["self"]) B R rfl (fun Lf=>?_) (FL fun n=>rfl) rfl ∅
 ·have m:=U.sz;refine AJ (CD (Bo B (Cb w) Ca (Ab (FT B () P.iU (Hd w) He (Cj (P.at_ .uab _ rfl) (by simp;exact ln m rfl) ?_)))))
  first|exact q|(rw[AU];exact q)
theorem pC(h:s≠.bk∧s≠.un∧s≠.edges∧s≠.forest∧s≠.known∧s≠.above∧s≠.waiting∧s≠.changes∧s≠.marks):DW c (L.put s a)=DW c L:=by
 refine Bv h fun h1 h2 h3 n=>Bv n fun h4 h5 h6 m=>BN m fun h7 h8 h9=>?_;funext y;unfold DW;rw[Bd _ _ h1.symm,Bd _ _ h2.symm,Bd _ _ h3.symm,Bd _ _ h4.symm,Bd _ _ h5.symm,Bd _ _ h6.symm,Bd _ _ h7.symm,Bd _ _ h8.symm,Bd _ _ h9.symm]
theorem v8(h:s≠.nodes∧s≠.numbers∧s≠.wts∧s≠.dps):G9 (L.put s a)=G9 L:=by
 refine Bv h fun h1 m n h4=>?_;funext y;unfold G9;rw[Bd _ _ h1.symm,Bd _ _ m.symm,Bd _ _ n.symm,Bd _ _ h4.symm]
theorem Zc5(h:s≠.uab∧s≠.ulots∧s≠.merged):Ix (L.put s a)=Ix L:=by
 refine BN h fun n h2 m=>?_;funext y;unfold Ix;rw[Bd _ _ n.symm,Bd _ _ h2.symm,Bd _ _ m.symm]
theorem wk(h:∀j,s≠.users j)(j:Nat)(ch:Ch):FP (L.put s a) j ch=FP L j ch:=by
 cases ch<;>first|rfl|(unfold FP;rw[Bd _ _ (h j).symm])
def JM:Slot→Option Slot
 |.ulot _=>some .ulots
 |.abv _=>some .above
 |.users _=>some .changes
 |.mark _=>some .marks
 |_=>none
theorem Uw{s₀:Slot}{a:AB}{t:Slot}{m:Slot}(hf:JM s₀=some m)(ht:t≠m):Aw c (L.put s₀ a) t=Aw c L t:=by
 have n:∀u,JM u=none→u≠s₀:=fun u e q=>by rw[q,hf]at e;exact Bh e
 have P:∀u,JM u=none→L.put s₀ a u=L u:=fun u e=>Bd _ _ (n u e);have N:∀u,JM u=none→s₀≠u:=fun u e=>(n u e).symm;cases t<;>try rfl
 ·show some (AO.inst _ _)=some _;rw[P .hdx rfl]
 ·show some (AO.ns _ _)=some _;rw[pC ⟨N _ rfl,N _ rfl,N _ rfl,N _ rfl,N _ rfl,N _ rfl,N _ rfl,N _ rfl,N _ rfl⟩]
 ·show some (AO.inst _ _)=some _;rw[P .bdx rfl]
 ·show some (AO.ns _ _)=some _;rw[v8 ⟨N _ rfl,N _ rfl,N _ rfl,N _ rfl⟩]
 ·show some (AO.inst _ _)=some _;rw[P .udx rfl]
 ·show some (AO.ns _ _)=some _;rw[Zc5 ⟨N _ rfl,N _ rfl,N _ rfl⟩]
 ·show some (AO.list _)=some (AO.list _);have:∀i,L.put s₀ a (.ulot i)=L (.ulot i):=fun i=>Bd _ _ fun e=>by
   rw[←e]at hf;cases hf;exact ht rfl
  simp only[this]
 ·show some (AO.dictI _)=some (AO.dictI _);have:∀i,L.put s₀ a (.abv i)=L (.abv i):=fun i=>Bd _ _ fun e=>by
   rw[←e]at hf;cases hf;exact ht rfl
  simp only[this]
 ·show some (AO.list _)=some (AO.list _);have:∀j ch,FP (L.put s₀ a) j ch=FP L j ch:=fun j ch=>wk (fun i e=>by rw[e]at hf;cases hf;exact ht rfl) j ch;simp only[this]
 ·show some (AO.list _)=some (AO.list _);have:∀i,L.put s₀ a (.mark i)=L (.mark i):=fun i=>Bd _ _ fun e=>by
   rw[←e]at hf;cases hf;exact ht rfl
  simp only[this]
def um(c c':HS):Slot→Prop
 |.nodes=>c'={c with nodes:=c'.nodes}
 |.numbers=>c'={c with nums:=c'.nums}
 |.wts=>c'={c with wts:=c'.wts}
 |.dps=>c'={c with dps:=c'.dps}
 |.uab=>c'={c with uab:=c'.uab}
 |.merged=>c'={c with merged:=c'.merged}
 |.edges=>c'={c with edges:=c'.edges}
 |.forest=>c'={c with forest:=c'.forest}
 |.known=>c'={c with known:=c'.known}
 |.waiting=>c'={c with waiting:=c'.waiting}
 |.hdx=>c'={c with backs:=c'.backs,made:=c'.made}
 |_=>c'=c
theorem cs{c c':HS}{L:AZ}{s:Slot}(h:um c c' s):∀t,t≠s→∀y,Aw c' L t=some y→Aw c L t=some y:=fun t ht y m=>by
 cases s<;>(have h:c'=_:=h;rw[h]at m;first|exact m|(cases t<;>first|exact absurd rfl ht|exact m))
@[inline]def aS:Lean.Syntax:=aT `(tacticSeq|exact Ag _)
@[inline]def aC:Lean.Syntax:=aT `(tacticSeq|exact cs rfl)
theorem AS.go(P:AS σ L c)(s:Slot){x:AO}{c':HS}{Ψ:AA→Prop}(h:Aw c' L s=some x)(q:∀σ',AS σ' L c'→Fm σ c L σ' c' L→(∀a,¬A8 c L a→σ' a=σ a)→Ψ σ')(m:Aw c L s≠none)
  (hs:∀t,t≠s→∀y,Aw c' L t=some y→Aw c L t=some y):Ψ (Internal.upd σ (L s) x):=
 q _ (P.upd s m h hs) (P.updFm s m fun t ht=>by
  by_cases e:t=s
  ·rw[e];exact m
  ·refine AY (ER.mp ht) fun y hy=>?_;rw[hs t e y hy];exact Ag _) fun a n=>Au _ _ fun e=>n ⟨s,m,e.symm⟩
theorem AS.new(P:AS σ L c){x:AO}{D:AB}{Ψ:AA→Prop}(n:σ D=none)(q:∀σ',σ' D=some x→AS σ' L c→Fm σ c L σ' c L→¬A8 c L D→(∀a,a≠D→σ' a=σ a)→Ψ σ'):Ψ (Internal.upd σ D x):=
 q _ (Am _ _ _) (P.beside n) (.beside n) (P.out n) fun a h=>Au _ _ h
theorem AS.take(P:AS σ L c)(s₀ s₁:Slot){a:AB}{x y:AO}{c':HS}{Ψ:AA→Prop}{τ:AA}(ha:σ a=some x)(na:τ a=none)(a0:Fm τ c L σ c L)(nf:¬A8 c L a)(hf:JM s₀=some s₁)
  (e0:Aw c' (L.put s₀ a) s₀=some x)(e1:Aw c' (L.put s₀ a) s₁=some y)(hs:∀t,t≠s₀→t≠s₁→∀z,Aw c' L t=some z→Aw c L t=some z)
  (q:∀σ',AS σ' (L.put s₀ a) c'→Fm τ c L σ' c' (L.put s₀ a)→Ψ σ')(m:Aw c L s₁≠none):Ψ (Internal.upd σ (L s₁) y):=by
 have ne:s₁≠s₀:=by
  rintro rfl;cases s₁<;>cases hf
 have n:∀t,t≠s₀→t≠s₁→∀z,Aw c' (L.put s₀ a) t=some z→Aw c L t=some z:=fun t h0 m z hz=>by
  rw[Uw hf m]at hz;exact hs t h0 m z hz
 have hn:s₀≠.numbers∧s₀≠.known∧s₀≠.above:=by refine⟨?_,?_,?_⟩<;>rintro rfl<;>cases hf
 refine q _ (P.attach s₀ s₁ ha nf m ne e0 e1 n hn) (Zef (x:=x) P s₀ s₁ a0 na m (by rintro rfl;exact As hf) fun t h0 ht=>?_);by_cases e:t=s₁
 ·rw[e];exact m
 ·refine AY (ER.mp ht) fun z hz=>?_;rw[n t h0 e z hz];exact Ag _
variable {A:AX}
theorem C4{env:Af}{t:Sem Il}{ρ:AW}{Φ:CL→AW→AA→Prop}(P:AS σ L c)(s:Slot){x:AO}{c':HS}(h:Aw c' L s=some x)(q:∀σ',AS σ' L c'→Fm σ c L σ' c' L→(∀a,¬A8 c L a→σ' a=σ a)→I8 A env t ρ σ' Φ)(m:autoParam (Aw c L s≠none) aS)
  (hs:autoParam (∀t,t≠s→∀y,Aw c' L t=some y→Aw c L t=some y) aC):I8 A env t ρ (upd σ (L s) x) Φ:=P.go s h q m hs
theorem TP{env:Af}{t:Sem Il}{ρ:AW}{Φ:CL→AW→AA→Prop}(P:AS σ L c)(s₀ s₁:Slot){a:AB}{x y:AO}{c':HS}{τ:AA}(ha:σ a=some x)(na:τ a=none)(m:Fm τ c L σ c L)(n:¬A8 c L a)(hf:JM s₀=some s₁)
  (e0:Aw c' (L.put s₀ a) s₀=some x)(e1:Aw c' (L.put s₀ a) s₁=some y)(hs:∀t,t≠s₀→t≠s₁→∀z,Aw c' L t=some z→Aw c L t=some z)
  (q:∀σ',AS σ' (L.put s₀ a) c'→Fm τ c L σ' c' (L.put s₀ a)→I8 A env t ρ σ' Φ)(h1:autoParam (Aw c L s₁≠none) aS):I8 A env t ρ (upd σ (L s₁) y) Φ:=P.take s₀ s₁ ha na m n hf e0 e1 hs q h1
theorem Zd0{env:Af}{e:Expr}{ρ:AW}{Φ:AV→AA→Prop}(P:AS σ L c){x:AO}{D:AB}(n:σ D=none)(q:∀σ',σ' D=some x→AS σ' L c→Fm σ c L σ' c L→¬A8 c L D→(∀a,a≠D→σ' a=σ a)→EV A env e ρ σ' Φ):EV A env e ρ (upd σ D x) Φ:=P.new n q
theorem iY{f:Value}{args:List AV}{Φ:AV→AA→Prop}(P:AS σ L c)(s:Slot){x:AO}{c':HS}(h:Aw c' L s=some x)(q:∀σ',AS σ' L c'→Fm σ c L σ' c' L→(∀a,¬A8 c L a→σ' a=σ a)→AF A f args σ' Φ)(m:autoParam (Aw c L s≠none) aS)
  (hs:autoParam (∀t,t≠s→∀y,Aw c' L t=some y→Aw c L t=some y) aC):AF A f args (upd σ (L s) x) Φ:=P.go s h q m hs
theorem Lh{f:Value}{args:List AV}{Φ:AV→AA→Prop}(P:AS σ L c){x:AO}{D:AB}(n:σ D=none)(q:∀σ',σ' D=some x→AS σ' L c→Fm σ c L σ' c L→¬A8 c L D→(∀a,a≠D→σ' a=σ a)→AF A f args σ' Φ):AF A f args (upd σ D x) Φ:=P.new n q
theorem ip{f:Value→Value→Sem Value}{m y1:AV}{Φ:AV→AA→Prop}(P:AS σ L c){x:AO}{D:AB}(n:σ D=none)(q:∀σ',σ' D=some x→AS σ' L c→Fm σ c L σ' c L→¬A8 c L D→(∀a,a≠D→σ' a=σ a)→AM A f m y1 σ' Φ):AM A f m y1 (upd σ D x) Φ:=P.new n q
theorem ig{env:Af}{n:Value→Sem Unit}{m:AV}{ρ:AW}{Φ:AW→AA→Prop}(P:AS σ L c)(s:Slot){x:AO}{c':HS}(h:Aw c' L s=some x)(q:∀σ',AS σ' L c'→Fm σ c L σ' c' L→(∀a,¬A8 c L a→σ' a=σ a)→AQ A env n m ρ σ' Φ)(h0:autoParam (Aw c L s≠none) aS)
  (hs:autoParam (∀t,t≠s→∀y,Aw c' L t=some y→Aw c L t=some y) aC):AQ A env n m ρ (upd σ (L s) x) Φ:=P.go s h q h0 hs
theorem Pv{env:Af}{tt:Value→Sem Unit}{m:AV}{ρ:AW}{Φ:AW→AA→Prop}(P:AS σ L c){x:AO}{D:AB}(n:σ D=none)(q:∀σ',σ' D=some x→AS σ' L c→Fm σ c L σ' c L→¬A8 c L D→(∀a,a≠D→σ' a=σ a)→AQ A env tt m ρ σ' Φ):AQ A env tt m ρ (upd σ D x) Φ:=P.new n q
theorem Zcp{s:Slot}{a:AB}(h:(JM s).isSome=true){t:Slot}(ht:JM t=none):L.put s a t=L t:=Bd _ _ fun e=>by rw[e]at ht;rw[ht]at h;cases h
abbrev KM(c:HS):HS:={c with uab:=c.uab++[c.uab.length],lots:=c.lots++[[c.lots.length]]}
def Up(σ:AA)(c:HS)(L:AZ)(A:AX)(Φ:AV→AA→Prop):Prop:=∀(B:Aj)(R:Ah A 1)(P:AS σ L c)(U:Bz c.uab)(m:c.lots.length=c.uab.length)(q:∀L' σ',AS σ' L' (KM c)→Fm σ c L σ' (KM c) L'→Φ (.int (c.uab.length:Nat)) σ'),AF A (.ref 199) [.ref (L .un)] σ Φ
def aJ:((AA×HS)×AZ)×(AX×(AV→AA→Prop))→Prop:=fun t=>Up t.1.1.1 t.1.1.2 t.1.2 t.2.1 t.2.2
def PA:=zE aJ ((((fun _=>none),De),(fun _=>0)),({},(fun _ _=>True)))
def Zav:=PA.1.1.1
def EL:=PA.1.1.2
def SS:=PA.1.2
def nF:=PA.2.1
def rI:=PA.2.2
theorem sO:Up Zav EL SS nF rI:=fun B R P U hl q=>by
 have m:=U.sz;refine AF.def (F:=(aY w)) (names:=["self"]) B R rfl (fun Lf=>?_) (FL fun _=>rfl) rfl ∅
 ·have e1:=P.at_ .uab _ rfl;refine AJ (Bg (Cd Fu Fv (FT B () P.iU (Hd w) He ⟨rfl,e1,
   Ab (Bo B (Cb w) Ca (Ab (FT B () P.iU (Hd w) He (Cj e1 (by simp;exact ln m rfl) (FC e1 (by simp;exact ln m rfl) ?_)))))⟩)))
  refine C4 P .uab (c':={EL with uab:=EL.uab++[EL.uab.length]}) (by first|exact Ag _|(show some _=some _;simp)) fun a0 P1 F1 _=>?_
  have e2:=P1.at_ .ulots _ rfl;refine AJ (Bg (Cd Fu Fv (FT B () P1.iU (LS w) LJ ⟨rfl,e2,
   Ab (Da (Ab (Bo B (Cb w) Ca (Ab (FT B () P1.iU (LS w) LJ (Cj e2 (by simp;exact ln (AK (Ac hl) m) rfl) ⟨!Cz _,fun a na nb=>?_⟩))))))⟩)))
  refine Lh P1 na fun a1 ha P2 F2 nf ks=>?_;have e3:=P2.at_ .ulots _ rfl;refine FC e3 (by simp;exact ln (AK (Ac hl) m) rfl) ?_;refine TP P2 (c':=KM EL) (.ulot EL.lots.length) .ulots ha na F2 nf rfl (by show Yv _ ((EL.lots++[[EL.lots.length]])[EL.lots.length]?)=_;simp) ?_ (fun s n0 n1 z n=>?_) fun a2 P3 F3=>?_
  ·show some (AO.list ((B6 (EL.lots++[[EL.lots.length]]).length).map fun i=>.ref (SS.put (.ulot EL.lots.length) a (.ulot i))))=_;rw[BJ,DD,jy,Cw,List.map_singleton,Fn];congr 3;refine Dz fun i hi=>?_;rw[Bd _ _ (fun e=>by obtain rfl:=Internal.Slot.ulot.inj e;exact absurd (MH.mp hi) (EP _))]
  ·cases s<;>first|exact absurd rfl n1|exact n|skip
   rename_i i;have ni:i≠EL.lots.length:=fun e=>n0 (by rw[e]);change((EL.lots++[[EL.lots.length]])[i]?.map _)=some z at n;show(EL.lots[i]?.map _)=some z;rw[List.getElem?_append]at n;split at n
   ·exact n
   ·rename_i hi;have:i-EL.lots.length≠0:=by exact Zar ni hi
    refine AY (jz this) fun k hk=>?_;rw[hk]at n;simp at n
  ·have e4:=P3.at_ .uab _ rfl;refine AJ (CD (CH (Bo B (Cb w) Ca (Ab (FT B (a:=SS .un) () (Zcp (L:=SS) (a:=a) (s:=.ulot EL.lots.length) rfl (t:=.un) rfl▸P3.iU) (Hd w) He (Cj e4 (by simp;exact ln m rfl) (BB (NN ?_))))))));have z:=q _ _ P3 (F1.trans F3);have e5:((j0 (nats (KM EL).uab):Nat):Int)-1=(EL.uab.length:Nat):=by simp
   rw[e5];exact z
theorem wS{σ c L A Φ}:Up σ c L A Φ:=@zF _ aJ _ @sO (((σ,c),L),(A,Φ))
end
section
variable {σ σ' σ'' τ τ':AA} {A:AX} {env:Af} {ρ:AW} {c c':HS} {L L':AZ}
theorem Xj(B:Aj)(hx:ρ x=some (.ref a))(I:Du σ a C dx n fs)(hn:fs name=none)(M:B5 w C name f)(F:Ak w f fd)
  (k:AC A env m args ρ σ fun xs σ₂=>AF A (.ref f) (.ref a::xs) σ₂ Φ)(hk:autoParam (env.kindOf x=some .local) aR)(a1:autoParam (env.scope.kind=.function) aR)(hd:autoParam ((x==("__debug__":Str))=false) aD)(hp:autoParam (CO args=true) aR)
  (he:autoParam (A0 (.Call (.Attribute (.Name x p) name a0) args [] m) env=(do
   let ov ←A0 (.Name x p) env
   Cp a0.atName
   let(f,first) ←CW [ov] (GZ ov name pl)
   ES m f first (Dp m (Bb args env)) (H3 m (H4 [] env)))) aR):
  EV A env (.Call (.Attribute (.Name x p) name a0) args [] m) ρ σ Φ:=
 Xq B (DI hx hk ⟨_,_,_,_,_,_,_,rfl,I,hn,M,F,k⟩ a1 hd) hp he
theorem Bu(B:Aj)(hx:ρ x=some (.ref a))(I:Du σ a C dx n fs)(hn:fs name=none)(M:B5 w C name f)(F:Ak w f fd)
  (k:AC A env m args ρ σ fun xs σ₂=>AF A (.ref f) (.ref a::xs) σ₂ Φ)(hk:autoParam (Ck (env.kindOf x)=true) aR)(a1:autoParam (env.scope.kind=.function) aR)(hd:autoParam ((x==("__debug__":Str))=false) aD)(hp:autoParam (CO args=true) aR)
  (he:autoParam (A0 (.Call (.Attribute (.Name x p) name a0) args [] m) env=(do
   let ov ←A0 (.Name x p) env
   Cp a0.atName
   let(f,first) ←CW [ov] (GZ ov name pl)
   ES m f first (Dp m (Bb args env)) (H3 m (H4 [] env)))) aR):
  EV A env (.Call (.Attribute (.Name x p) name a0) args [] m) ρ σ Φ:=
 Xq B (AG hx ⟨_,_,_,_,_,_,_,rfl,I,hn,M,F,k⟩ hk a1 hd) hp he
theorem VM(p:js.Perm [(x:Int),(y:Int)])(s:js.Pairwise (· ≤·)):js=[((min x y:Nat):Int),((max x y:Nat):Int)]:=by
 have hl:=p.length_eq
 match js,hl with
 |[a,b],_=>
  have m:a≤b:=by
   rw[Jt]at s;exact s.1 b (.head _)
  have h1:a=x∧b=y∨a=y∧b=x:=by
   have ha:=p.mem_iff.mp (Dq (a:=a) (l:=[b]));rcases A7.mp ha with e|e
   ·left;refine⟨e,?_⟩;subst e;have:=(List.perm_cons _).mp p;simpa using this
   ·have e:=Ap.mp e;right;refine⟨e,?_⟩;subst e;have:=p.trans (jq _ _ _);have:=(List.perm_cons _).mp this;simpa using this
  rcases h1 with⟨e1,n⟩|⟨e1,n⟩
  ·subst e1 n;have:x≤y:=by exact Al aL m
   rw[Tf this,Th this]
  ·subst e1 n;have:y≤x:=by exact Al aL m
   rw[Tg this,Ti this]
abbrev HI(c:HS)(m n:Nat):HS:={c with uab:=c.uab.set n m,lots:=c.lots.set m ((c.lots[m]?.getD [])++(c.lots[n]?.getD [])),merged:=c.merged++[(m,n)]}
structure Of(c:HS):Prop where
 len:c.lots.length=c.uab.length
 sz:∀l∈c.lots,l.length≤1000
 m:c.merged.length≤1000
theorem Og(P:AS σ L c){i:Nat}{l:List Nat}(e:c.lots[i]? =some l):σ (L (.ulot i))=some (.list (nats l)):=P.at_ (.ulot i) _ (by show Yv _ _=_;rw[e];rfl)
theorem TA{n i:Nat}(h:i<n):(((B6 n).map fun i=>AV.ref (L (.ulot i))))[((i:Int)).toNat]? =some (.ref (L (.ulot i))):=by
 show((B6 n).map _)[i]? =_;rw[CK,jJ h];rfl
def Wt(σ:AA)(A:AX)(c:HS)(L:AZ)(a:Nat)(b:Nat)(Φ:AV→AA→Prop):Prop:=∀(B:Aj)(R:Ah A 2)(P:AS σ L c)(U:Bz c.uab)(O:Of c)(ha:a<c.uab.length)(m:b<c.uab.length)(q1:root c.uab a=root c.uab b→∀σ',AS σ' L c→Fm σ c L σ' c L→Φ .none σ')(n:root c.uab a≠root c.uab b→∀σ',AS σ' L (HI c (min (root c.uab a) (root c.uab b)) (max (root c.uab a) (root c.uab b)))→Fm σ c L σ' (HI c (min (root c.uab a) (root c.uab b)) (max (root c.uab a) (root c.uab b))) L→
   Φ (.tup [.int (min (root c.uab a) (root c.uab b):Nat),.int (max (root c.uab a) (root c.uab b):Nat)]) σ'),AF A (.ref 220) [.ref (L .un),.int a,.int b] σ Φ
def gy:((AA×AX)×(HS×AZ))×((Nat×Nat)×(AV→AA→Prop))→Prop:=fun t=>Wt t.1.1.1 t.1.1.2 t.1.2.1 t.1.2.2 t.2.1.1 t.2.1.2 t.2.2
def LN:=zE gy ((((fun _=>none),{}),(De,(fun _=>0))),((0,0),(fun _ _=>True)))
def v7:=LN.1.1.1
def wQ:=LN.1.1.2
def CY:=LN.1.2.1
def Qz:=LN.1.2.2
def NH:=LN.2.1.1
def M7:=LN.2.1.2
def uD:=LN.2.2
theorem Zbs:Wt v7 wQ CY Qz NH M7 uD:=fun B R P U O ha a4 q1 q2=>by
 have a3:=U.sz;have a6:=Jy CY.uab NH;have a8:=Jy CY.uab M7;refine AF.def (F:=(Zx w)) (names:=["self","a","b"]) B R rfl (fun Lf=>?_) (KI fun _ _ _=>rfl) rfl ∅
 ·refine AJ (BR (Bo B (MW w) Mp (Ab (Da (BX
   (Xj B () P.iU () (Su w) (Ox w) (Ab (DI () () (SY B (R.deeper _) P U ha ?_)))))))))
  refine Xj B () P.iU () (Su w) (Ox w) (Ab (DI () () (SY B (R.deeper _) P U a4 ?_)));refine⟨!ld rfl,fun D na nb=>?_⟩;refine Lh P na fun a9 hD P1 F1 nf ks=>?_;refine TL (is:=[(root CY.uab NH:Nat),(root CY.uab M7:Nat)]) hD (!ld rfl) fun js hp hs E nE b4=>?_;have hj:=VM hp hs;subst hj;generalize hk:min (root CY.uab NH) (root CY.uab M7)=kept;generalize hg:max (root CY.uab NH) (root CY.uab M7)=gone;rw[hk,hg]at q2;refine Pv P1 nE fun a5 hE P2 F2 b1 b0=>?_;refine FB R.handled (.list hE) rfl (BZ (Nc () (BZ (Nc () (Dm ?_)))));refine AJ (CP (Bj (DI () () (DI () () (HP (BO ?_))))));by_cases h:root CY.uab NH=root CY.uab M7
  ·have:decide ((kept:Int)=(gone:Int))=true:=by
    rw[←hk,←hg,h];simp
   refine CQ this ?_;exact AJ (CD (Xm (q1 h a5 P2 (F1.trans F2))))
  ·have a0:kept<gone:=by exact qE hk hg h
   have n:gone<CY.uab.length:=by exact yM ha a4 a6 a8 hg
   have:decide ((kept:Int)=(gone:Int))=false:=by simp;exact Al Zaz a0
   refine Ba this ?_;refine Ax ?_;have e1:=P2.at_ .uab _ rfl;refine AJ (BR (DI () () (KZ (FT B () P2.iU (Hd w) He (DI () () (setL e1 (by simpa using n) (by simp;exact ln a3 rfl) ?_))))));refine C4 P2 .uab (c':={CY with uab:=CY.uab.set gone kept}) (by first|exact Ag _|(show some _=some _;simp)) fun b2 P3 F3 _=>?_
   obtain⟨l1,a1⟩:∃l,CY.lots[kept]? =some l:=⟨_,Dy (by rw[O.len];exact AK a0 (Cy n))⟩;obtain⟨l2,a2⟩:∃l,CY.lots[gone]? =some l:=⟨_,Dy (by rw[O.len];exact n)⟩;have m1:=O.sz _ (DE a1);have m2:=O.sz _ (DE a2);have e2:=P3.at_ .ulots _ rfl;have k1:=Og P3 (c:={CY with uab:=CY.uab.set gone kept}) a1;have k2:=Og P3 (c:={CY with uab:=CY.uab.set gone kept}) a2;have ll:=O.len;refine AJ (Bg (Cd (l:=Qz (.ulot kept)) (xs:=nats l1) jM Zfr
    (CV (FT B () P3.iU (LS w) LJ (DI () () ⟨⟨_,_,.list e2⟩,En e2 (!A6 o0) (TA (L:=Qz) (i:=kept) (by show kept<CY.lots.length;exact AK (AK a0 (Cy n)) (Ac ll.symm))) (!BS sV a3 a0 n) ⟨rfl,k1,
     Ab (CV (FT B () P3.iU (LS w) LJ (DI () () ⟨⟨_,_,.list e2⟩,En e2 (!A6 o0) (TA (L:=Qz) (i:=gone) (by show gone<CY.lots.length;exact AK n (Ac ll.symm))) (!Al o7 a3 n)
      (ij k1 k2 (by rw[AU,AU];exact Al n7 m1 m2) ?_)⟩)))⟩⟩)))))
   refine C4 P3 (.ulot kept) (c':={CY with uab:=CY.uab.set gone kept,lots:=CY.lots.set kept ((CY.lots[kept]?.getD [])++(CY.lots[gone]?.getD []))}) ?h1 (fun b3 P4 F4 _=>?_) (by show(CY.lots[kept]?.map _)≠none;rw[a1];exact Ag _) ?h2
   case h1=>
    show((CY.lots.set kept _)[kept]?.map _)=_;rw[Jv (!AK (AK a0 (Cy n)) (Ac ll.symm)),a1,a2];simp
   case h2=>
    intro t ht y hy;cases t<;>first|exact hy|skip
    ·change some (AO.list ((B6 (CY.lots.set kept _).length).map _))=_ at hy;rw[Ir]at hy;exact hy
    ·rename_i i;change((CY.lots.set kept _)[i]?.map _)=_ at hy;rw[H6 (fun e=>ht (by rw[e]))]at hy;exact hy
   have e5:=P4.at_ .merged _ rfl;refine AJ (Bg (Cd Fu Fv (FT B () P4.iU (OT w) On ⟨rfl,e5,
    Ab (Bw (BX (DI () () (DI () () ⟨!ld rfl,FC e5 (by rw[AU];have:=O.m;show CY.merged.length≤_;exact ln this rfl) ?_⟩))))⟩)))
   refine C4 P4 .merged (c':=HI CY kept gone) (by first|exact Ag _|(show some _=some _;simp)) fun a7 P5 F5 _=>?_
   refine AJ (CD (Bw (BX (DI () () (DI () () ⟨!ld rfl,?_⟩)))));exact q2 h a7 P5 (F1.trans (F2.trans (F3.trans (F4.trans F5))))
theorem kM{σ A c L a b Φ}:Wt σ A c L a b Φ:=@zF _ gy _ @Zbs (((σ,A),(c,L)),((a,b),Φ))
end
section
def JH(x:Nat):List Nat→List Nat
 |[]=>[x]
 |y::ys=>if x<y then x::y::ys else if x=y then y::ys else y::JH x ys
def ss(xs:List Nat):List Nat:=xs.foldr JH []
theorem W0{x y:Nat}{ys:List Nat}:JH x (y::ys)=if x<y then x::y::ys else if x=y then y::ys else y::JH x ys:=by rfl
theorem aj:∀{ys:List Nat},z∈JH x ys↔z=x∨z∈ys:=by
 intro ys
 induction ys with
 |nil=>
  show z∈[x]↔_;simp
 |cons y ys m=>
  rw[W0];split
  ·simp
  ·split
   ·rename_i h;subst h;simp
   ·rw[A7,A7,m];constructor
    ·rintro(h|h|h)<;>simp[h]
    ·rintro(h|h|h)<;>simp[h]
theorem oH:∀{ys:List Nat},ys.Pairwise (· <·)→(JH x ys).Pairwise (· <·):=by
 intro ys
 induction ys with
 |nil=>
  intro _;exact Zfs _ _
 |cons y ys n=>
  intro h;rw[W0];rw[Jt]at h;split
  ·rename_i l;refine Jt.mpr ⟨fun z m=>?_,Jt.mpr h⟩;rcases A7.mp m with rfl|q
   ·exact l
   ·exact jg l (h.1 z q)
  ·split
   ·exact Jt.mpr h
   ·refine Jt.mpr ⟨fun z m=>?_,n h.2⟩;rcases aj.mp m with rfl|q
    ·exact Al Zbz (by assumption) (by assumption)
    ·exact h.1 z q
theorem Mb:z∈ss xs↔z∈xs:=by
 induction xs with
 |nil=>rfl
 |cons x xs m=>show z∈JH x (ss xs)↔_;rw[aj,m,A7]
theorem Om:∀xs:List Nat,(ss xs).Pairwise (· <·)
 |[]=>.nil
 |x::xs=>oH (Om xs)
theorem Uo:∀{xs ys:List Nat},xs.Pairwise (· <·)→ys.Pairwise (· <·)→(∀z,z∈xs↔z∈ys)→xs=ys
 |[],[],_,_,_=>rfl
 |[],y::ys,_,_,h=>absurd ((h y).mpr (.head _)) (by simp)
 |x::xs,[],_,_,h=>absurd ((h x).mp (.head _)) (by simp)
 |x::xs,y::ys,hx,hy,h=>by
  have n:=Jt.mp hx;have m:=Jt.mp hy;have e:x=y:=by
   rcases A7.mp ((h x).mp (.head _))with e|q
   ·exact e
   ·rcases A7.mp ((h y).mpr (.head _))with e|q'
    ·exact e.symm
    ·have:=m.1 x q;have:=n.1 y q';exact Al rJ (by assumption) this
  subst e;rw(config:={}) [Uo n.2 m.2 fun z=>?_];constructor
  ·intro q;rcases A7.mp ((h z).mp (.tail _ q))with e|r
   ·have:=n.1 z q;exact absurd e (HW this)
   ·exact r
  ·intro q;rcases A7.mp ((h z).mpr (.tail _ q))with e|r
   ·have:=m.1 z q;exact absurd e (HW this)
   ·exact r
theorem XD{xs:List Nat}:(ss xs).length≤xs.length:=by
 induction xs with
 |nil=>exact A9 _
 |cons x xs m=>
  have:∀ys:List Nat,(JH x ys).length≤ys.length+1:=fun ys=>by
   induction ys with
   |nil=>exact Cz _
   |cons y ys m=>rw[W0];split<;>(try split)<;>simp<;>exact m
  have:=this (ss xs);show(JH x (ss xs)).length≤_;simp;exact AK this (CG m)
section
variable {K V W:Type} [DecidableEq K] {J:Type} [DecidableEq J]
theorem PR(f:J→K)(g:V→W)(n:∀a b,f a=f b→a=b):∀(xs:List (J×V))(k:J),AH (xs.map fun p=>(f p.1,g p.2)) (f k)=(AH xs k).map g:=by
 intro xs
 induction xs with
 |nil=>
  intro _;exact rfl
 |cons p xs m=>
  intro k;rw[CF,Fb,Fb,m k];by_cases h:p.1=k
  ·rw[if_pos h,if_pos (by rw[h])];rfl
  ·rw[if_neg h,if_neg fun e=>h (n _ _ e)]
theorem zx(f:J→K)(g:V→W)(m:∀a b,f a=f b→a=b)(xs:List (J×V))(k:J)(v:V):Av (xs.map fun p=>(f p.1,g p.2)) (f k) (g v)=(Av xs k v).map fun p=>(f p.1,g p.2):=by
 unfold Av;rw[PR f g m];cases AH xs k with
 |none=>simp
 |some y=>
  simp only[Option.map_some,Qd,if_true,Bx];refine Dz fun p n=>?_;simp only[N9];by_cases h:p.1=k
  ·simp[h]
  ·rw[if_neg h,if_neg fun e=>h (m _ _ e)]
theorem ZK(f:J→K)(g:V→W)(m:∀a b,f a=f b→a=b)(xs:List (J×V))(k:J):BP (xs.map fun p=>(f p.1,g p.2)) (f k)=(BP xs k).map fun p=>(f p.1,g p.2):=by
 unfold BP;rw[Js];refine congrArg _ (UN fun p n=>?_);simp only[N9];by_cases h:p.1=k
 ·simp[h]
 ·rw[decide_eq_true h];exact decide_eq_true fun e=>h (m _ _ e)
end
namespace HS
def find(c:HS)(a:Nat):Nat:=root c.uab a
def nd(c:HS)(n:Nat):Nd:=(c.nodes[n]?).getD ("",[])
def canon(c:HS)(n:Nat):Nd:=((c.nd n).1,(c.nd n).2.map c.find)
def ab(c:HS)(a:Nat):List Nat:=(AH c.abo a).getD []
def join(c:HS)(a b:Nat)(r:AV):HS:=
 let k:=min (c.find a) (c.find b);let g:=max (c.find a) (c.find b)
 if c.find a=c.find b then{c with changes:=c.changes++[.loose k (c.ab k).length k],edges:=c.edges++[.tup [.int a,.int b,r]]}
 else{HI c k g with changes:=c.changes++[.edge k (c.ab k).length g (c.ab g)],edges:=c.edges++[.tup [.int a,.int b,r]],forest:=c.forest++[c.edges.length],waiting:=c.waiting++c.ab g,abo:=Av (BP c.abo g) k (c.ab k++c.ab g)}
def likeR:AV:=.tup [.str "like"]
def note(c:HS)(n:Nat):HS:=
 let m:HS:=if n=c.made then{c with changes:=c.changes++[.made n],made:=n+1}else c
 if(AH c.known (c.canon n)).isSome then m else{m with changes:=m.changes++[.known (c.canon n)]}
def look(c:HS)(n:Nat):HS:=
 let o:=(AH c.known (c.canon n)).getD n;let m:HS:=if(AH c.known (c.canon n)).isSome then c else{c with known:=c.known++[(c.canon n,n)]}
 if c.find o≠c.find n then m.join o n likeR else m
def lookAt(c:HS)(n:Nat):HS:=(c.note n).look n
end HS
end
section
variable {σ σ' σ'' τ τ':AA} {A:AX} {env:Af} {ρ:AW} {c c':HS} {L L':AZ}
theorem Sl(l:List Nat):nats l=BH (l.map fun(n:Nat)=>(n:Int)):=by
 show l.map _=(l.map _).map _;rw[Bx];rfl
theorem AP(h:y≠x):put ρ x v y=ρ y:=if_neg h
theorem Ar:put ρ x v x=some v:=if_pos rfl
theorem Zai(B:Aj)(R:Ah A 2)(P:AS σ L c)(U:Bz c.uab){a:Nat}(ha:a<c.uab.length){l:List Nat}(hl:c.lots[root c.uab a]? =some l)(ll:l.length<64)(hn:c.lots.length≤1000){Φ:AV→AA→Prop}
  (q:∀js,js.Perm (l.map fun(n:Nat)=>(n:Int))→js.Pairwise (· ≤·)→∀D σ',σ' D=some (.list (BH js))→AS σ' L c→Fm σ c L σ' c L→Φ (.ref D) σ'):AF A (.ref 227) [.ref (L .un),.int a] σ Φ:=by
 refine AF.def (F:=(fX w)) (names:=["self","a"]) B R rfl (fun Lf=>?_) (DG fun zz zz=>rfl) rfl ∅
 ·have e2:=P.at_ .ulots _ rfl;have m:root c.uab a<c.lots.length:=(BY.mp hl).1;have k1:=Og P hl;rw[Sl]at k1;refine AJ (CD (Bo B (MW w) Mp (Ab (CV (FT B () P.iU (LS w) LJ
   (Xj B () P.iU () (Su w) (Ox w) (Ab (DI () () (SY B (R.deeper _) P U ha ⟨⟨_,_,.list e2⟩,En e2 (!A6 o0) (TA m) (!Al o7 hn m)
    (TL k1 (by rw[AU];exact ll) fun js hp hs D nD nb=>?_)⟩)))))))))
  refine q js hp hs D _ (Am _ _ _) (P.beside nD) (.beside nD)
theorem mP(B:Aj)(R:Ah A 2)(P:AS σ L c)(U:Bz c.uab)
  (q:∀D σ',σ' D=some (.list (nats ((B6 c.uab.length).filter fun a=>decide (c.uab[a]? =some a))))→σ D=none→AS σ' L c→Fm σ c L σ' c L→Φ (.ref D) σ'):AF A (.ref 232) [.ref (L .un)] σ Φ:=by
 refine GU (F:=(bj w)) (names:=["self"]) B R rfl (fun Lf=>?_) (FL fun zz=>rfl) rfl ∅
 ·have e1:=P.at_ .uab _ rfl;have m:=U.sz;refine AJ (CD (Pw R.handled (Le (Fl B (Jf w) JS ⟨rfl,Ab (Bo B (Cb w) Ca (Ab (iR B () P.iU (Hd w) He (Cj e1 (by simp;exact ln m rfl) ⟨c.uab.length,by simp,!ln (CG m) rfl,?_⟩))))⟩ ⋯ () () () ())) ()));refine⟨⟨_,_,rfl⟩,_,Xk,by simp;exact ln m rfl,fun v=>match v with|.int i=>decide (c.uab[i.toNat]? =some i.toNat)|_=>false,id,fun v hv C=>?_,fun v hv zz C=>?_,fun D nD nb=>?_⟩
  ·refine AI (BD.mp hv) fun i n a0=>?_;subst a0;have n:=MH.mp n;have hx:c.uab[i]? =some c.uab[i]:=Dy n;have hz:(0:Int)+(i:Nat)=(i:Nat):=Jn _;rw[hz];refine Bj (CV (iR B () P.iU (Hd w) He (DI () () ⟨⟨_,_,.list e1⟩,En e1 (!A6 o0) (am hx) (!Al o7 m n) (DI () () (HP (BO ⟨?_,rfl⟩)))⟩)));show _=decide (c.uab[((i:Nat):Int).toNat]? =some ((i:Nat):Int).toNat);rw[EW,hx];simp only[Option.some.injEq];exact decide_eq_decide.mpr (!BS mO n)
  ·refine AI (BD.mp hv) fun i n a1=>?_;subst a1;exact DI () () ⟨rfl,rfl⟩
  ·refine q D _ ?_ nD (P.beside nD) (.beside nD);rw[Am,Js,Bx];simp -iota only[id,Jn];congr 2
def Wr(A:AX)(c:HS)(L:AZ)(ms:List (Nat×Nat))(k:Nat)(g:Nat)(l1:List Nat)(l2:List Nat)(Φ:AV→AA→Prop):Prop:=∀{σ:AA}(B:Aj)(R:Ah A 1)(P:AS σ L c)(hm:c.merged=ms++[(k,g)])(n:k≠g)(hg:g<c.uab.length)(h1:c.lots[k]? =some (l1++l2))(h2:c.lots[g]? =some l2)(O:Of c)(m:c.uab.length≤1000)(q:∀σ',AS σ' L {c with merged:=ms,uab:=c.uab.set g g,lots:=c.lots.set k l1}→Fm σ c L σ' {c with merged:=ms,uab:=c.uab.set g g,lots:=c.lots.set k l1} L→Φ .none σ'),AF A (.ref 246) [.ref (L .un),.int (ms.length:Nat)] σ Φ
def Y6:(((AX×HS)×AZ)×((List (Nat×Nat))×Nat))×((Nat×List Nat)×(List Nat×(AV→AA→Prop)))→Prop:=fun t=>Wr t.1.1.1.1 t.1.1.1.2 t.1.1.2 t.1.2.1 t.1.2.2 t.2.1.1 t.2.1.2 t.2.2.1 t.2.2.2
def I6:=zE Y6 (((({},De),(fun _=>0)),([],0)),((0,[]),([],(fun _ _=>True))))
def Vc:=I6.1.1.1.1
def Dk:=I6.1.1.1.2
def Hl:=I6.1.1.2
def Fy:=I6.1.2.1
def GS:=I6.1.2.2
def G6:=I6.2.1.1
def LA:=I6.2.1.2
def Ug:=I6.2.2.1
def R0:=I6.2.2.2
theorem vS:Wr Vc Dk Hl Fy GS G6 LA Ug R0:=fun{σ} B R P hm hk hg h1 h2 O sz q=>by
 refine AF.def (F:=(cm w)) (names:=["self","many"]) B R rfl (fun Lf=>?_) (DG fun _ _=>rfl) rfl ∅
 ·have hO:=O.m;have hL:=O.len;have hs:=O.sz _ (DE h1);have a2:GS<Dk.lots.length:=(BY.mp h1).1;have a5:G6<Dk.lots.length:=(BY.mp h2).1;have a0:Dk.merged.length=Fy.length+1:=by rw[hm];simp
  refine AJ (Ll (fun n ρ' σ'=>(n=1∧σ'=σ∧ρ'=B8 ["self","many"] [.ref (Hl .un),.int (Fy.length:Nat)])∨(n=0∧ρ' "self"=some (.ref (Hl .un))∧ρ' "many"=some (.int (Fy.length:Nat))∧
   AS σ' Hl {Dk with merged:=Fy,uab:=Dk.uab.set G6 G6,lots:=Dk.lots.set GS LA}∧Fm σ Dk Hl σ' {Dk with merged:=Fy,uab:=Dk.uab.set G6 G6,lots:=Dk.lots.set GS LA} Hl)) 1 (.inl ⟨rfl,rfl,rfl⟩) ?_)
  rintro n ρ' σ' (⟨rfl,rfl,rfl⟩|⟨rfl,r1,r2,P',F'⟩)
  ·have e1:=P.at_ .merged _ rfl;refine Bj (Bo B (Cb w) Ca (Ab (FT B () P.iU (OT w) On (Cj e1 (by rw[AU];exact ln hO rfl) (DI () () (KW (BO ?_)))))));rw[AU];have:decide (((Dk.merged.length:Nat):Int)>(Fy.length:Nat))=true:=by rw[a0];simp;exact A6 qi
   refine CQ this ?_;have a4:σ' (Hl .merged)=some (.list (Fy.map (fun p=>.tup [.int p.1,.int p.2])++[.tup [.int GS,.int G6]])):=by
    rw[e1,hm,Cw];rfl
   refine AJ (BR (Cd FW Fw (FT B () P.iU (OT w) On ⟨rfl,a4,AC.nil (FS a4 (by rw[AU];exact ln (AK (Cy (Ac a0.symm)) hO) rfl) ?_)⟩)));refine ig P .merged (c':={Dk with merged:=Fy}) (by first|exact Ag _|(show some _=some _;simp)) fun a7 P1 F1 _=>?_
   refine FB R.handled (.tup _) rfl (BZ (Nc () (BZ (Nc () (Dm ?_)))));have e2:=P1.at_ .uab _ rfl;refine AJ (BR (DI () () (KZ (FT B () P1.iU (Hd w) He (DI () () (setL e2 (by simpa using hg) (by simp;exact ln sz rfl) ?_))))));refine C4 P1 .uab (c':={Dk with merged:=Fy,uab:=Dk.uab.set G6 G6}) (by first|exact Ag _|(show some _=some _;simp)) fun a1 P2 F2 _=>?_
   have e3:=P2.at_ .ulots _ rfl;have k1:a1 (Hl (.ulot GS))=some (.list (nats LA++nats Ug)):=by
    have:=Og P2 (i:=GS) h1;rw[this];show _=some (AO.list (LA.map _++Ug.map _));rw[←Cw]
   have k2:=Og P2 (i:=G6) h2;have a3:∀{i:Nat}{Vc:AX}{ρ:AW}{x:Str}{p1 p2 p3 p4:A3}{R0:AV→AA→Prop},i<Dk.lots.length→ρ "self"=some (.ref (Hl .un))→ρ x=some (.int (i:Nat))→Ck ((BA (WU w) Lf 246).kindOf x)=true→(x==("__debug__":Str))=false→R0 (.ref (Hl (.ulot i))) a1→EV Vc (BA (WU w) Lf 246) (((Yu "self" p1).Attribute "lots" p2).Subscript (Yu x p3) p4) ρ a1 R0:=fun hi r1 r2 a6 hd q=>
    HM B r1 P2.iU (LS w) LJ r2 (.list e3) (En e3 (!A6 o0) (TA (L:=Hl) hi) (!BS zg sz hL hi) q) () a6 trivial () ⋯ hd
   refine AJ (Xx (a3 a2 () () () ⋯ (CH (Bo B (Cb w) Ca (Ab (a3 a2 () () () ⋯ (Cj k1 (by simp at hs ⊢;exact ln hs rfl) (Bo B (Cb w) Ca (Ab (a3 a5 () () () ⋯ (Cj k2 (by simp at hs ⊢;exact Al pR hs) (NN ?_))))))))))));refine⟨_,_,LA.length,rfl,by simp,k1,by simp,by simp at hs ⊢;exact ln hs rfl,?_⟩;rw[UO (!AU _)];refine C4 P2 (.ulot GS) (c':={Dk with merged:=Fy,uab:=Dk.uab.set G6 G6,lots:=Dk.lots.set GS LA}) ?_ (fun a8 P3 F3 _=>Ax ⟨0,!A9 _,.inr ⟨rfl,by rfl,by rfl,P3,F1.trans (F2.trans F3)⟩⟩) (by show(Dk.lots[GS]?.map _)≠none;rw[h1];exact Ag _) ?_
   ·show((Dk.lots.set GS _)[GS]?.map _)=_;rw[Jv a2];rfl
   ·intro t ht y hy;cases t<;>first|exact hy|skip
    ·change some (AO.list ((B6 (Dk.lots.set GS _).length).map _))=_ at hy;rw[Ir]at hy;exact hy
    ·rename_i i;change((Dk.lots.set GS _)[i]?.map _)=_ at hy;rw[H6 (fun e=>ht (by rw[e]))]at hy;exact hy
  ·have e1:=P'.at_ .merged _ rfl;refine Bj (Bo B (Cb w) Ca (Ab (FT B r1 P'.iU (OT w) On (Cj e1 (by rw[AU];show Fy.length≤_;exact ln (AK (Cy (Ac a0.symm)) hO) rfl) (DI r2 () (KW (BO ?_)))))));rw[AU];have:decide (((Fy.length:Nat):Int)>(Fy.length:Nat))=false:=by simp
   refine Ba this ?_;exact Ax (q σ' P' F')
theorem qZ{A c L ms k g l1 l2 Φ}:Wr A c L ms k g l1 l2 Φ:=@zF _ Y6 _ @vS ((((A,c),L),(ms,k)),((g,l1),(l2,Φ)))
set_option tactic.hygienic true in
theorem Zax(B:Aj)(R:Ah A 5)(P:AS σ L c)(U:Bz c.uab){n:Nat}{ab:List Nat}(h1:c.uab=ab++[n])(h2:c.lots=ls++[[n]])(n1:ab.length=n)(n2:ls.length=n){Φ:AV→AA→Prop}
  (q:∀σ',AS σ' L {c with uab:=ab,lots:=ls}→Fm σ c L σ' {c with uab:=ab,lots:=ls} L→Φ .none σ'):AF A (.ref 253) [.ref (L .un),.int n] σ Φ:=by
 have sz:=U.sz;have m:c.uab.length=n+1:=by rw[h1];simp[n1]
 have a0:c.lots.length=n+1:=by rw[h2];simp[n2]
 have hn:c.uab[n]? =some n:=by rw[h1,It (!Ac n1),n1];simp
 have hr:root c.uab n=n:=HA hn;have a4:c.lots[n]? =some [n]:=by rw[h2,It (!Ac n2),n2];simp
 refine AF.def (F:=(zw w)) (names:=["self","many"]) B R rfl (fun Lf=>?_) (DG fun _ _=>rfl) rfl ∅
 ·refine AJ (BR (Bo B (Vg w) Wn (BX (AG () (BB (ic R.handled ?_))))));have hm:(if(0:Int)>(n:Nat)then(0:Int)else(n:Nat))=(n:Nat):=if_neg (!A6 Zn);rw[hm];refine A2 ?_;have e1:=P.at_ .uab _ rfl;refine AJ (Gs R.handled (Zdq (Fl B (Jf w) JS ⟨rfl,BX (AG () (Bo B (Cb w) Ca (Ab (BM B () P.iU (Hd w) He (Cj e1 (by rw[AU];exact ln sz rfl) ⟨n,n+1,by rw[AU,m],!ln (AK (Ac m.symm) sz) rfl,!ln (AK (CG (Ac m.symm)) (CG sz)) rfl,⟨_,_,rfl⟩,trivial,1,fun i ρ' σ'=>i≤1∧ρ' "self"=some (.ref (L .un))∧ρ' "many"=some (.int n)∧AS σ' L c∧Fm σ c L σ' c L,⟨!ld rfl,by rfl,by rfl,P,.refl _ _ _⟩,?_⟩)))))⟩ ⋯ () () () ())));rintro i ρ' σ' ⟨hi,r1,r2,P',F'⟩;refine⟨hi,_,rfl,?_⟩;by_cases h0:i<n+1-n
  ·have:i=0:=by exact Zci h0
   subst this;rw[if_pos h0];refine A2 ?_;have z:((n:Nat):Int)+((0:Nat):Int)=(n:Nat):=by exact rfl
   rw[z];refine AJ (CP (Bj (Bu B (by rw[AP ⋯];exact r1) P'.iU () (re w) (fX w) (Ab (AG (Ar) (Zai B (R.up rfl) P' U (!Ac m.symm) (l:=[n]) (by rw[hr];exact a4) (!ld rfl) (!AK (AK (Ac a0) (Ac m.symm)) sz) fun js hp hs D a2 hD P1 F1=>?_))))));have hj:js=[(n:Int)]:=List.perm_singleton.mp (by simpa using hp);subst hj;refine Da (Ab (AG Ar ⟨!Cz _,fun E nE a5=>?_⟩));refine ip P1 nE fun a1 hE P2 F2 nf ks=>?_;have a3:a1 D=some (.list (BH [(n:Int)])):=by rw[ks D (by rintro rfl;exact As ((nE.symm.trans hD)))];exact hD
   refine Xn (d:=.list [.int n]) (e:=.list [.int n]) (R.deeper _ |>.mono (!A9 _)) (.list a3 (.cons (.int _) .nil)) (.list hE (.cons (.int _) .nil)) () () (BO ?_);have:(not (HX (.list [.int n]) (.list [.int n])))=false:=by simp[HX,PyData.eqvAll]
   refine Ba this ?_;exact Ax (Ax ⟨!A9 _,by rw[AP ⋯];exact r1,by rw[AP ⋯];exact r2,P2,F'.trans (F1.trans F2)⟩)
  ·rw[if_neg h0];have e1:=P'.at_ .uab _ rfl;refine AJ (Xx (BM B r1 P'.iU (Hd w) He (AG r2 ⟨_,_,n,rfl,rfl,e1,by rw[AU];exact Cy (Ac m.symm),by rw[AU];exact ln sz rfl,?_⟩)));have:(nats c.uab).take n=nats ab:=by rw[h1];show(Iu _ _).take n=_;rw[Cw,UO (by simp[n1])]
   rw[this];refine C4 P' .uab (c':={c with uab:=ab}) (by first|exact Ag _|(show some _=some _;simp)) fun a2 P1 F1 _=>?_
   have e2:=P1.at_ .ulots _ rfl;refine AJ (Xx (BM B r1 P1.iU (LS w) LJ (AG r2 ⟨_,_,n,rfl,rfl,e2,by simp;show n≤c.lots.length;exact Cy (Ac a0.symm),by simp;show c.lots.length≤_;exact ln (AK (AK (Ac a0) (Ac m.symm)) sz) rfl,?_⟩)));refine C4 P1 .ulots (c':={c with uab:=ab,lots:=ls}) ?_ (fun a1 P2 F2 _=>Ax (q a1 P2 (F'.trans (F1.trans F2)))) (by first|exact Ag _|(show some _=some _;simp)) ?_
   ·show some (AO.list ((B6 ls.length).map fun i=>AV.ref (L (.ulot i))))=_;show _=some (AO.list (((B6 c.lots.length).map _).take n));rw[a0,jy,Cw,UO (by simp),n2]
   ·intro t ht y hy;cases t<;>first|exact absurd rfl ht|exact hy|skip
    rename_i i;change(ls[i]?.map _)=_ at hy;show(c.lots[i]?.map _)=_;rw[h2];cases hq:ls[i]? with
    |none=>rw[hq]at hy;cases hy
    |some v=>rw[Es (BY.mp hq).1,hq];rw[hq]at hy;exact hy
def An(σ σ':AA):Prop:=∀a,σ a≠none→σ' a=σ a
theorem An.refl(σ:AA):An σ σ:=fun m m=>rfl
theorem An.trans(x:An σ σ')(y:An σ' σ''):An σ σ'':=fun a h=>by rw[y a (by rw[x a h];exact h),x a h]
theorem An.new{D:AB}{x:AO}(n:σ D=none):An σ (upd σ D x):=fun a h=>Au _ _ (by rintro rfl;exact h n)
theorem AS.ext(P:AS σ L c)(x:An σ σ'):AS σ' L c:=P.other fun a f=>x a (P.foot f)
theorem An.fm(x:An σ σ'):Fm σ c L σ' c L:=⟨fun a h m=>x a h,fun m f=>.inl f,rfl⟩
def Cx(x:Str):Prop:=x="a"∨x="b"∨x="c"∨x="f"∨x="g"
theorem Cx.char(o:Cx x):∃ch,x=⟨#[ch]⟩∧x.cps.all (· <128)=true∧Txt.isspace ⟨#[ch]⟩=false∧(not ((Zfa ("()[]{},:":Str) ⟨#[ch]⟩ 0 ("()[]{},:":Str).length 1).isEmpty))=false∧(x != ("":Str))=true∧((⟨#[ch]⟩:Str)==("?":Str))=false:=by
 rcases o with rfl|rfl|rfl|rfl|rfl
 ·exact⟨97,rfl,by decide+kernel,by decide+kernel,by decide+kernel,by decide,by decide⟩
 ·exact⟨98,rfl,by decide+kernel,by decide+kernel,by decide+kernel,by decide,by decide⟩
 ·exact⟨99,rfl,by decide+kernel,by decide+kernel,by decide+kernel,by decide,by decide⟩
 ·exact⟨102,rfl,by decide+kernel,by decide+kernel,by decide+kernel,by decide,by decide⟩
 ·exact⟨103,rfl,by decide+kernel,by decide+kernel,by decide+kernel,by decide,by decide⟩
theorem yS(w:AD):Co (KK w) Bk "is_op"=some (some (.ref 67)):=∅
theorem uQ(B:Aj)(R:Ah A 6)(o:Cx x)(q:∀σ',An σ σ'→Φ (.bool true) σ'):AF A (.ref 67) [.str x] σ Φ:=by
 refine AY o.char fun ch a1=>Bv a1 fun e1 e2 e3 a0=>BN a0 fun e4 e5 e6=>?_;refine AF.def (F:=(ZP w)) (names:=["text"]) B R rfl (fun Lf=>?_) (FL fun zz=>rfl) rfl ∅
 ·refine AJ (CD (iM (Nf (AG () (DJ (Zdb ⟨true,by rw[e5],?_⟩))))));refine CQ rfl ?_;refine Nf (Pw R.handled (Zd3 (AG () ⟨x,rfl,e2,⟨_,_,rfl⟩,[.str x],fun i=>?_,!Cz _,fun zz=>false,id,fun v m C=>?_,fun v m h=>(Gx h).elim,fun D nD nb=>?_⟩)) ())
  ·show _=x.cps[i]?.map _;rw[e1]
   match i with
   |0=>rfl
   |n+1=>rfl
  ·rw[Ap]at m;subst m;refine Lm (HN (Py (Zcq PySem.F.slot_str_isspace PySem.F.type_str_isspace (AG () ⟨rfl,AC.nil (Zdr (b:=false) (by rw[e1];exact e3) (BO ?_))⟩))));refine Ba rfl ?_;exact HN (Bj (AG () (DJ (Zdl (b:=false) (by rw[e1];exact e4) (BO (NK ⟨rfl,rfl⟩))))))
  ·refine Da (AC.nil ⟨!Be _,fun E nE a3=>?_⟩);have a2:D≠E:=by rintro rfl;rw[Am]at nE;cases nE
   refine iT (d:=.list []) (e:=.list []) (R.up rfl) (.list (by rw[Au _ _ a2,Am];rfl) .nil) (.list (Am _ _ _) .nil) () () ?_;have:HX (.list []) (.list [])=true:=by simp[HX,PyData.eqvAll]
   rw[this];exact q _ ((An.new nD).trans (.new nE))
theorem GR(n:Nd):B1 n.key=.tup (.str n.1::nats n.2):=by
 show AV.tup (_::(n.2.map _).map B7.av)=_;rw[Bx];rfl
theorem Hy{id:Str}(B:Aj)(e:Co (KK w) Bk id=some (some (.ref f)))(F:Ak w f fd)
  (k:AC A env m args ρ σ fun xs σ₂=>AF A (.ref f) xs σ₂ Φ)(n:autoParam (env.kindOf id=some .globalImplicit) aR)(hk:autoParam (env.scope.kind=.function) aR)(hg:autoParam (env.globals=Bk) aR)
  (hd:autoParam ((id==("__debug__":Str))=false) aD)(hp:autoParam (CO args=true) aR):EV A env (.Call (.Name id p) args [] m) ρ σ Φ:=
 Lg B (NP B e ⟨_,.fn F,k⟩ n hk hg hd) hp
theorem NX(n:ρ x=some (.tup (v::xs)))(hz:xs.length≤1000)(q:Φ (.tup xs) σ)(hl:autoParam (Ck (env.kindOf x)=true) aR)(m:autoParam (env.scope.kind=.function) aR)(hd:autoParam ((x==("__debug__":Str))=false) aD):
  EV A env (.Subscript (.Name x p) (.Slice (some (.Constant (.int 1) k p2)) none none p3) p4) ρ σ Φ:=
 TS (AG n (BB ⟨1,rfl,⟨_,_,.tup⟩,Ji.tup (a:=1) (!A9 _) (!Cz _) (by simp;exact ln hz rfl) q⟩) hl m hd)
theorem JA:G9 L "nodes"=some (.ref (L .nodes)):=by rfl
theorem Ou:G9 L "numbers"=some (.ref (L .numbers)):=by rfl
theorem WX:G9 L "weights"=some (.ref (L .wts)):=by rfl
theorem Ub:G9 L "depths"=some (.ref (L .dps)):=by rfl
theorem gV{i:Nat}(e:c.nodes[i]? =some n):(c.nodes.map fun n=>B1 n.key)[((i:Int)).toNat]? =some (.tup (.str n.1::nats n.2)):=by
 rw[EW,CK,e,←GR];rfl
theorem ky(B:Aj)(R:Ah A 1)(P:AS σ L c)(m:c.nodes.length≤1000)(q:Φ (.int (c.nodes.length:Nat)) σ):AF A (.ref 93) [.ref (L .bk)] σ Φ:=by
 refine AF.def (F:=(cZ w)) (names:=["self"]) B R rfl (fun Lf=>?_) (FL fun n=>rfl) rfl ∅
 ·refine AJ (CD (Bo B (Cb w) Ca (Ab (BM B () P.iB (JJ w) JA (Cj (P.at_ .nodes _ rfl) (by rw[AU];exact ln m rfl) ?_)))));rw[AU];exact q
theorem Zan(B:Aj)(R:Ah A 1)(P:AS σ L c){i:Nat}(e:c.nodes[i]? =some n)(m:c.nodes.length≤1000)(q:Φ (.str n.1) σ):AF A (.ref 131) [.ref (L .bk),.int i] σ Φ:=by
 refine AF.def (F:=(cJ w)) (names:=["self","n"]) B R rfl (fun Lf=>?_) (DG fun zz zz=>rfl) rfl ∅
 ·have:=(BY.mp e).1;exact AJ (CD (CV (HM B () P.iB (JJ w) JA () (.list (P.at_ .nodes _ rfl)) (En (P.at_ .nodes _ rfl) (!A6 o0) (gV e) (!Al o7 m this) (BB ⟨⟨_,_,.tup⟩,Fk (!CZ o1) () (!CZ o2) q⟩)))))
theorem gD(B:Aj)(R:Ah A 1)(P:AS σ L c){i:Nat}(e:c.nodes[i]? =some n)(hn:c.nodes.length≤1000)(m:n.2.length≤1000)(q:Φ (.tup (nats n.2)) σ):AF A (.ref 138) [.ref (L .bk),.int i] σ Φ:=by
 refine AF.def (F:=(fg w)) (names:=["self","n"]) B R rfl (fun Lf=>?_) (DG fun zz zz=>rfl) rfl ∅
 ·have:=(BY.mp e).1;refine AJ (CD (TS (HM B () P.iB (JJ w) JA () (.list (P.at_ .nodes _ rfl)) (En (P.at_ .nodes _ rfl) (!A6 o0) (gV e) (!Al o7 hn this) (BB ⟨1,rfl,⟨_,_,.tup⟩,Ji.tup (a:=1) (!A9 _) (!Cz _) (by simp;exact ln m rfl) q⟩)))))
theorem vt(B:Aj)(R:Ah A 7)(o:Cx x)(q:∀σ',An σ σ'→Φ .none σ'):AF A (.ref 105) [.ref bk,.str x] σ Φ:=by
 refine AY o.char fun ch n=>Bv n fun e1 e2 e3 m=>BN m fun e4 e5 e6=>?_;refine AF.def (F:=(aA w)) (names:=["self","op"]) B R rfl (fun Lf=>?_) (DG fun zz zz=>rfl) rfl ∅
 ·refine AJ (CP (Lm (HN (QD (Py (Hy B (yS w) (ZP w) (Ab (AG () (uQ B (R.deeper _ |>.mono (!A9 _)) o fun a0 x1=>BO ?_)))))))));refine Ba Iv ?_;refine HN (Bj (CV (AG () (BB ⟨⟨_,_,.str⟩,Zem (i:=0) (c:=ch) (by rw[e1];rfl) (!ld rfl) (DJ (Jk (BO ?_)))⟩))));refine Ba e6 ?_;exact NK (by refine Ba rfl ?_;exact Ax (Ax (q a0 x1)))
abbrev Ks(c:HS)(n:Nd)(w d:Int):HS:={c with nodes:=c.nodes++[n],nums:=c.nums++[(n,c.nodes.length)],wts:=c.wts++[w],dps:=c.dps++[d]}
theorem ZE(n:Nd):AH (c.nums.map fun p=>(p.1.key,AV.int (p.2:Nat))) n.key=(AH c.nums n).map fun i=>.int (i:Nat):=PR Nd.key (fun i=>AV.int (i:Nat)) (fun m m=>Lk) _ _
structure RL(c:HS):Prop where
 n:c.nodes.length≤1000
 w:c.wts.length=c.nodes.length
 d:c.dps.length=c.nodes.length
 m:c.nums.length=c.nodes.length
theorem cx(B:Aj)(hh:A.handled=none)
  (I:Du σ bk 174 dx 4 (G9 L))(ok:DF w 174 m)(hf:G9 L m=some (.ref l))(e:σ l=some (.list (BH is)))(hk:∀k∈ks,k<is.length)(hz:is.length≤1000)(a0:ks.length≤1000)
  (hs:ρ "self"=some (.ref bk))(hx:ρ "node"=some (.tup (v0::nats ks)))
  (q:∀js:List Int,js.length=ks.length→∀D,σ D=none→hb.get? D=none→Φ (.ref D) (upd σ D (.list (BH js))))
  (hc:Ht scope env "kid"=true)(k0:Ck (env.kindOf "node")=true)(a3:env.scope.kind=.function)(k1:∀C,Ck ((CR scope env C).kindOf "self")=true)(k2:∀C,Ck ((CR scope env C).kindOf "kid")=true)(k3:∀C,(CR scope env C).scope.kind=.function)
  (he:autoParam (∀env,A0 (.Attribute (.Name "self" p1) m p2) env=(do
   let o ←A0 (.Name "self" p1) env
   Cp p2.atName
   let r ←CW [o] (Lv o m true)
   Lw (.Name "self" p1) o r
   pure r)) aW):
  EV A env (.ListComp (.Subscript (.Attribute (.Name "self" p1) m p2) (.Name "kid" p3) p4) [⟨.Name "kid" px,.Subscript (.Name "node" q1) (.Slice (some (.Constant (.int 1) n0 q2)) none none q3) q4,[],0⟩] scope a4) ρ σ Φ:=by
 refine QE hh (Pz (NX hx (by rw[AU];exact a0) ⟨_,rfl,?_⟩ k0 a3)) hc;refine⟨trivial,_,TV,by rw[AU];exact ln a0 rfl,fun v=>match v with|.int i=>.int (is[i.toNat]?.getD 0)|v=>v,fun v hv C=>?_,fun D nD nb=>?_⟩
 ·refine AI (BD.mp hv) fun k a2 n=>?_;subst n;have a1:=hk k a2;refine HM B (by rw[AP ⋯];exact hs) I ok hf Ar (.list e) (En e (!A6 o0) (x:=.int (is[k]?.getD 0)) ?_ (!Al o7 hz a1) ⟨rfl,rfl⟩) (k1 C) (k2 C) trivial (k3 C) ⋯ ⋯ he;rw[EW,CK,Dy a1];rfl
 ·have:(nats ks).map (fun v=>match v with|.int i=>AV.int (is[i.toNat]?.getD 0)|v=>v)=BH (ks.map fun k=>is[k]?.getD 0):=by
   show(ks.map _).map _=(ks.map _).map _;rw[Bx,Bx];rfl
  rw[this];exact q _ (!AU _) D nD nb
theorem v6(B:Aj)(R:Ah A 2)(P:AS σ L c)(e:AH c.nums n=some i)(hn:n.2.length≤1000)(q:Φ (.int i) σ):AF A (.ref 98) [.ref (L .bk),.str n.1,.tup (nats n.2)] σ Φ:=by
 refine GU (F:=(S5 w)) (names:=["self","op","kids"]) B R rfl (fun Lf=>?_) (KI fun zz zz zz=>rfl) rfl ∅
 ·refine AJ (BR (CH (Bw (Ab (AG () ⟨!Cz _,FF B (JD w) Jg (Ab (AG () (iq (NV (by simp;exact A6 RN hn) ?_))))⟩)))));refine A2 ?_;have m:=P.at_ .numbers _ rfl;have e0:AV.tup ([AV.str n.1]++nats n.2)=B1 n.key:=(GR n).symm;rw[e0];have hl:=ZE (c:=c) n;rw[e]at hl;refine AJ (CP (Bj (AG Ar (BM B () P.iB (PY w) Ou (iP (R.deeper _).u1 m P.n1.1 (BO ?_))))));rw[hl];refine AJ (CD (HM B () P.iB (PY w) Ou Ar (.dictT m) (DT.get (R.deeper _).u1 m hl q)))
def VS(σ:AA)(A:AX)(c:HS)(L:AZ)(n:Nd)(Φ:AV→AA→Prop):Prop:=∀(B:Aj)(R:Ah A 8)(P:AS σ L c)(O:RL c)(e:AH c.nums n=none)(hn:n.2.length≤1000)(ho:Cx n.1)(hk:∀k∈n.2,k<c.nodes.length)(q:∀m d σ',AS σ' L (Ks c n m d)→Fm σ c L σ' (Ks c n m d) L→Φ (.int (c.nodes.length:Nat)) σ'),AF A (.ref 98) [.ref (L .bk),.str n.1,.tup (nats n.2)] σ Φ
def d9:((AA×AX)×HS)×((AZ×Nd)×(AV→AA→Prop))→Prop:=fun t=>VS t.1.1.1 t.1.1.2 t.1.2 t.2.1.1 t.2.1.2 t.2.2
def Mm:=zE d9 ((((fun _=>none),{}),De),(((fun _=>0),BV),(fun _ _=>True)))
def u8:=Mm.1.1.1
def tc:=Mm.1.1.2
def DM:=Mm.1.2
def XN:=Mm.2.1.1
def C0:=Mm.2.1.2
def vM:=Mm.2.2
theorem yz:VS u8 tc DM XN C0 vM:=fun B R P O e hn ho hk q=>by
 refine GU (F:=(S5 w)) (names:=["self","op","kids"]) B R rfl (fun Lf=>?_) (KI fun zz zz zz=>rfl) rfl ∅
 ·have sz:=O.n;have sw:=O.w;have sd:=O.d;have sm:=O.m;refine AJ (BR (CH (Bw (Ab (AG () ⟨!Cz _,FF B (JD w) Jg (Ab (AG () (iq (NV (by simp;exact A6 RN hn) ?_))))⟩)))));refine A2 ?_;have en:=P.at_ .numbers _ rfl;have e0:AV.tup ([AV.str C0.1]++nats C0.2)=B1 C0.key:=(GR C0).symm;have hl:=ZE (c:=DM) C0;rw[e]at hl;rw[e0];refine AJ (CP (Bj (AG Ar (BM B () P.iB (PY w) Ou (iP (R.deeper _ |>.mono (!ld rfl):Ah _ 1).u1 en P.n1.1 (BO ?_))))));rw[hl];refine Ax (AJ (Bg (Bu B () P.iB () (uE w) (aA w) (Ab (AG () (vt B (R.deeper _ |>.mono (!A9 _)) ho fun a3 x1=>?_))))));have P1:=P.ext x1;have a1:put (B8 ["self","op","kids"] [.ref (XN .bk),.str C0.1,.tup (nats C0.2)]) "node" (B1 C0.key) "node"=some (.tup (.str C0.1::nats C0.2)):=by rw[←GR];rfl
  refine AJ (Gs R.handled (Pz (NX a1 (by simp;exact hn) ⟨_,rfl,trivial,trivial,C0.2.length,fun i ρ' σ'=>i≤C0.2.length∧σ'=a3∧ρ' "self"=some (.ref (XN .bk))∧ρ' "node"=some (.tup (.str C0.1::nats C0.2)),⟨!Be _,rfl,by rfl,a1⟩,?_⟩)));rintro i ρ' σ' ⟨hi,rfl,r1,r2⟩;refine⟨hi,_,rfl,?_⟩;have eN:=P1.at_ .nodes _ rfl;rw[CK];cases hq:C0.2[i]? with
  |some k=>
   have a5:=hk k (DE hq);have b3:=(BY.mp hq).1;refine A2 ?_;refine AJ (CP (QD (iV (BB (AG Ar (X8 (BO ?_)))))));have:decide ((0:Int)≤(k:Nat))=true:=decide_eq_true (!A6 o0);refine CQ this ?_;refine Bo B (Cb w) Ca (Ab (BM B (by rw[AP ⋯];exact r1) P1.iB (JJ w) JA (Cj eN (by rw[AU];exact ln sz rfl) (NL (BO ?_)))));rw[AU];have:decide (((k:Nat):Int)<(DM.nodes.length:Nat))=true:=decide_eq_true (!Al XX a5);rw[this];refine Ba Iv ?_;exact Ax (Ax ⟨!b3,rfl,by rw[AP ⋯];exact r1,by rw[AP ⋯];exact r2⟩)
  |none=>
   have en:=P1.at_ .numbers _ rfl;have e1:ρ' "node"=some (B1 C0.key):=by rw[GR];exact r2
   refine AJ (BR (Bo B (Cb w) Ca (Ab (BM B r1 P1.iB (JJ w) JA (Cj eN (by rw[AU];exact ln sz rfl) (KZ (BM B r1 P1.iB (PY w) Ou (AG e1 (DT.set (R.deeper _ |>.mono (!ld rfl):Ah _ 1).u1 en (by simp;exact ln (AK (Ac sm) sz) rfl) ?_)))))))));rw[AU];have pk:Av (DM.nums.map fun p=>(p.1.key,AV.int (p.2:Nat))) C0.key (.int (DM.nodes.length:Nat))=(DM.nums++[(C0,DM.nodes.length)]).map fun p=>(p.1.key,AV.int (p.2:Nat)):=by
    unfold Av;rw[hl];simp
   rw[pk];refine C4 P1 .numbers (c':={DM with nums:=DM.nums++[(C0,DM.nodes.length)]}) (!rfl) fun c2 P2 F2 zz=>?_;have eN:=P2.at_ .nodes _ rfl;refine AJ (Bg (Cd Fu Fv (BM B r1 P2.iB (JJ w) JA ⟨rfl,eN,Ab (AG e1 (FC eN (by rw[AU];show DM.nodes.length≤_;exact ln sz rfl) ?_))⟩)));refine C4 P2 .nodes (c':={DM with nums:=DM.nums++[(C0,DM.nodes.length)],nodes:=DM.nodes++[C0]}) (by first|exact Ag _|(show some _=some _;simp)) fun c3 P3 F3 zz=>?_
   have eW:=P3.at_ .wts _ rfl;refine AJ (Bg (Cd Fu Fv (BM B r1 P3.iB (Uk w) WX ⟨rfl,eW,Ab (CH (BB (Bo B (di w) gE (Ab
    (cx B R.handled P3.iB (Uk w) WX eW (by rw[sw];exact hk) (by rw[sw];exact sz) hn r1 r2 (fun js hj D nD nb=>?_) () () () (fun zz=>by rfl) (fun zz=>by rfl) (fun zz=>by rfl))))))⟩)))
   refine Lh P3 nD fun c9 hD P4 F4 nf ks=>?_;refine Zcy R.handled hD (Jj ?_);have eW:=P4.at_ .wts _ rfl;refine FC eW (by simp;show DM.wts.length≤_;exact ln (AK (Ac sw) sz) rfl) ?_;refine C4 P4 .wts (c':={DM with nums:=DM.nums++[(C0,DM.nodes.length)],nodes:=DM.nodes++[C0],wts:=DM.wts++[1+js.sum]}) (by first|exact Ag _|(show some _=some _;simp)) fun c8 P5 F5 zz=>?_
   have eD:=P5.at_ .dps _ rfl;refine AJ (Bg (Cd Fu Fv (BM B r1 P5.iB (WH w) Ub ⟨rfl,eD,Ab (CH (BB (Bo B (Vg w) Wn (Ab (CH
    (cx B R.handled P5.iB (WH w) Ub eD (by rw[sd];exact hk) (by rw[sd];exact sz) hn r1 r2 (fun a0 a9 E nE c4=>?_) () () () (fun zz=>by rfl) (fun zz=>by rfl) (fun zz=>by rfl)))))))⟩)))
   refine Zd0 P5 nE fun b7 hE P6 F6 b6 c6=>?_;refine Da (Ab (BB ⟨!Cz _,fun E2 a2 b5=>?_⟩));refine ip P6 a2 fun a6 b2 P7 F7 c1 b1=>?_;have b0:a6 E=some (.list (BH a0)):=by rw[b1 E (by rintro rfl;exact As ((a2.symm.trans hE)))];exact hE
   refine Ka b0 b2 (by simp;exact ln (AK (Ac a9) hn) rfl) fun E3 a7 b4=>?_;refine Lh P7 a7 fun d1 a4 P8 F8 d2 c5=>?_;refine Zdp (is:=a0++[0]) R.handled (by rw[a4];simp) (by simp) fun d=>Jj ?_;have eD:=P8.at_ .dps _ rfl;refine FC eD (by simp;show DM.dps.length≤_;exact ln (AK (Ac sd) sz) rfl) ?_;refine C4 P8 .dps (c':=Ks DM C0 (1+js.sum) (1+d)) (by first|exact Ag _|(show some _=some _;simp)) fun a8 P9 F9 zz=>?_
   have eN:=P9.at_ .nodes _ rfl;refine AJ (CD (CH (Bo B (Cb w) Ca (Ab (BM B r1 P9.iB (JJ w) JA (Cj eN (by rw[AU,BJ,DD];exact ln (CG sz) rfl) (BB (NN ?_))))))));have:=q _ _ a8 P9 (x1.fm.trans (F2.trans (F3.trans (F4.trans (F5.trans (F6.trans (F7.trans (F8.trans F9))))))));have e9:(((DM.nodes++[C0]).map fun C0=>B1 C0.key).length:Int)-1=(DM.nodes.length:Nat):=by simp
   rw[e9];exact this
theorem Zbl{σ A c L n Φ}:VS σ A c L n Φ:=@zF _ d9 _ @yz (((σ,A),c),((L,n),Φ))
def DictAt(σ:AA)(l:AB):Prop:=(∃es,σ l=some (.dictI es))∨(∃es,σ l=some (.dictS es))∨∃es,σ l=some (.dictT es)
theorem Na{o:Expr}{a0 n:A3}{args:List Expr}{name:Str}{id:String}{l:AB}{Φ:AV→AA→Prop}(a2:N5 "dict" name id)(a3:No (.builtin id)=pure (.type "method_descriptor"))
  (k:EV A env o ρ σ fun ov m=>ov=.ref l∧DictAt m l∧AC A env n args ρ m fun ys σ₂=>AF A (.builtin id) (.ref l::ys) σ₂ Φ)(hp:autoParam (CO args=true) aR)
  {pl:Sem Bool}(he:autoParam (A0 (.Call (.Attribute o name a0) args [] n) env=(do
   let ov ←A0 o env
   Cp a0.atName
   let(f,first) ←CW [ov] (GZ ov name pl)
   ES n f first (Dp n (Bb args env)) (H3 n (H4 [] env)))) aR):
  EV A env (.Call (.Attribute o name a0) args [] n) ρ σ Φ:=
 TZ Zf2 a2 a3 (k.mono fun ov m a1=>BN a1 fun e1 sa q=>by
  subst e1;refine⟨fun s u g r=>?_,q⟩;obtain rfl:=Bi r;have:∃ob,s.heap.get? l=some ob∧ob.ExactDict:=by
   rcases sa with⟨es,e⟩|⟨es,e⟩|⟨es,e⟩
   ·refine J3 ((g.own _ _ e).2) fun kvs o zz zz ho hx zz zz=>?_;exact⟨o,ho,hx⟩
   ·refine J3 ((g.own _ _ e).2) fun kvs o zz zz ho hx zz zz=>?_;exact⟨o,ho,hx⟩
   ·refine J3 ((g.own _ _ e).2) fun kvs o zz zz ho hx zz zz=>?_;exact⟨o,ho,hx⟩
  refine AI this fun ob ho hx=>?_;exact⟨⟨_,ho,hx.1⟩,fun a e=>by obtain rfl:=Tu e;exact⟨ob,ho,hx.2.1⟩⟩) hp he
abbrev IW(c:HS)(n:Nd):HS:={c with nodes:=c.nodes.dropLast,nums:=BP c.nums n,wts:=c.wts.dropLast,dps:=c.dps.dropLast}
theorem bv:∀{xs:List α},xs≠[]→∃x,xs=xs.dropLast++[x]:=fun{xs} h=>⟨xs.getLast h,(List.dropLast_concat_getLast h).symm⟩
theorem dJ{ρ':AW}{m:Nat}{Φ:Bool→AA→Prop}{p1 p2 p3 p4 n p6 p7 p8 p9:A3}{k:Nat}(B:Aj)(hh:A.handled=none)(P:AS σ L c)(hz:c.nodes.length≤1000)(r1:ρ' "self"=some (.ref (L .bk)))(r2:ρ' "many"=some (.int (m:Nat)))(q:Φ (decide (m<c.nodes.length)) σ):
  TR A (BA (gK w) Lf 124) (.Compare (.Call (.Name "len" p1) [.Attribute (.Name "self" p2) "nodes" p3] [] p4) [.Gt] [.Call (.Name "max" n) [.Name "many" p6,.Constant (.int 0) k p7] [] p8] p9) ρ' σ Φ:=by
 have e:=P.at_ .nodes _ rfl;refine Bj (Bo B (Cb w) Ca (Ab (BM B r1 P.iB (JJ w) JA (Cj e (by rw[AU];exact ln hz rfl) (Bo B (Vg w) Wn (BX (AG r2 (BB (ic hh ?_)))))))));have:(if(0:Int)>(m:Nat)then(0:Int)else(m:Nat))=(m:Nat):=if_neg (!A6 Zn);rw[this,AU];refine KW (BO ?_);have:decide (((m:Nat):Int)<(c.nodes.length:Nat))=decide (m<c.nodes.length):=by simp
 rw[this];exact q
def WG(A:AX)(c:HS)(L:AZ)(n:Nd)(ns:List Nd)(Φ:AV→AA→Prop):Prop:=∀{σ:AA}(B:Aj)(R:Ah A 2)(P:AS σ L c)(O:RL c)(h1:c.nodes=ns++[n])(m:(AH c.nums n).isSome=true)(q:∀σ',AS σ' L (IW c n)→Fm σ c L σ' (IW c n) L→Φ .none σ'),AF A (.ref 124) [.ref (L .bk),.int (ns.length:Nat)] σ Φ
def eX:((AX×HS)×AZ)×((Nd×List Nd)×(AV→AA→Prop))→Prop:=fun t=>WG t.1.1.1 t.1.1.2 t.1.2 t.2.1.1 t.2.1.2 t.2.2
def Mu:=zE eX ((({},De),(fun _=>0)),((BV,[]),(fun _ _=>True)))
def kG:=Mu.1.1.1
def DZ:=Mu.1.1.2
def IR:=Mu.1.2
def G7:=Mu.2.1.1
def IY:=Mu.2.1.2
def vQ:=Mu.2.2
theorem kP:WG kG DZ IR G7 IY vQ:=fun{σ} B R P O h1 h2 q=>by
 have sz:=O.n;have sw:=O.w;have sd:=O.d;have sm:=O.m;have hl:DZ.nodes.length=IY.length+1:=by rw[h1];simp
 refine AY (bv (xs:=DZ.wts) (by intro e;rw[e]at sw;simp at sw;exact Al fJ sw hl)) fun x hx=>?_;refine AY (bv (xs:=DZ.dps) (by intro e;rw[e]at sd;simp at sd;exact Al fJ sd hl)) fun y hy=>?_;have lw:DZ.wts.dropLast.length≤1000:=by simp;exact ln (AK (Ac sw) sz) rfl
 have ld:DZ.dps.dropLast.length≤1000:=by simp;exact ln (AK (Ac sd) sz) rfl
 have hd:DZ.nodes.dropLast=IY:=by rw[h1];simp
 generalize hw:DZ.wts.dropLast=ws at*;generalize a5:DZ.dps.dropLast=ds at*;refine AF.def (F:=(Zb7 w)) (names:=["self","many"]) B R rfl (fun Lf=>?_) (DG fun zz zz=>rfl) rfl ∅
 ·refine AJ (Ll (fun k ρ' σ'=>(k=1∧σ'=σ∧ρ'=B8 ["self","many"] [.ref (IR .bk),.int (IY.length:Nat)])∨(k=0∧ρ' "self"=some (.ref (IR .bk))∧ρ' "many"=some (.int (IY.length:Nat))∧
   AS σ' IR (IW DZ G7)∧Fm σ DZ IR σ' (IW DZ G7) IR)) 1 (.inl ⟨rfl,rfl,rfl⟩) ?_)
  rintro k ρ' σ' (⟨rfl,rfl,rfl⟩|⟨rfl,r1,r2,P',F'⟩)
  ·refine dJ B R.handled P sz () () ?_;refine CQ (decide_eq_true (!Al lE hl)) ?_;have eN:=P.at_ .nodes _ rfl;have a2:σ' (IR .nodes)=some (.list (IY.map (fun G7=>B1 G7.key)++[B1 G7.key])):=by rw[eN,h1,Cw];rfl
   have eU:=P.at_ .numbers _ rfl;refine AJ (Bg (Na (l:=IR .numbers) YZ Zft (BM B () P.iB (PY w) Ou ⟨rfl,.inr (.inr ⟨_,eU⟩),Ab
    (Cd FW Fw (BM B () P.iB (JJ w) JA ⟨rfl,a2,AC.nil (FS a2 (by rw[AU];exact ln (AK (Cy (Ac hl.symm)) sz) rfl) ?_)⟩))⟩)))
   refine iY P .nodes (c':={DZ with nodes:=IY}) (by first|exact Ag _|(show some _=some _;simp)) fun a7 P1 F1 zz=>?_
   have eU:=P1.at_ .numbers _ rfl;refine AY (Lu.mp h2) fun i hi=>?_;have a3:=PR Nd.key (fun i=>AV.int (i:Nat)) (fun zz zz=>Lk) DZ.nums G7;rw[hi]at a3;refine DT.pop (R.deeper _).u1 eU (by simp;exact ln (AK (Ac sm) sz) rfl) a3 ?_;rw[ZK Nd.key (fun i=>AV.int (i:Nat)) (fun zz zz=>Lk)];refine C4 P1 .numbers (c':={DZ with nodes:=IY,nums:=BP DZ.nums G7}) (by first|exact Ag _|(show some _=some _;simp)) fun a4 P2 F2 zz=>?_
   have eW:=P2.at_ .wts _ rfl;have a0:a4 (IR .wts)=some (.list (BH ws++[.int x])):=by rw[eW];show some (AO.list (BH DZ.wts))=_;rw[hx];simp
   refine AJ (Bg (Cd FW Fw (BM B () P2.iB (Uk w) WX ⟨rfl,a0,AC.nil (FS a0 (by simp;exact ln lw rfl) ?_)⟩)));refine C4 P2 .wts (c':={DZ with nodes:=IY,nums:=BP DZ.nums G7,wts:=ws}) (by first|exact Ag _|(show some _=some _;simp)) fun a6 P3 F3 zz=>?_
   have eD:=P3.at_ .dps _ rfl;have a1:a6 (IR .dps)=some (.list (BH ds++[.int y])):=by rw[eD];show some (AO.list (BH DZ.dps))=_;rw[hy];simp
   refine AJ (Bg (Cd FW Fw (BM B () P3.iB (WH w) Ub ⟨rfl,a1,AC.nil (FS a1 (by simp;exact ln ld rfl) ?_)⟩)));have hc:IW DZ G7={DZ with nodes:=IY,nums:=BP DZ.nums G7,wts:=ws,dps:=ds}:=by simp only[IW,hd,hw,a5]
   refine C4 P3 .dps (c':=IW DZ G7) (by rw[hc];show some _=some _;simp) (fun a8 P4 F4 zz=>?_) (by first|exact Ag _|(show some _=some _;simp)) (by rw[hc];exact cs rfl)
   exact Ax ⟨0,!A9 _,.inr ⟨rfl,by rfl,by rfl,P4,F1.trans (F2.trans (F3.trans F4))⟩⟩
  ·refine dJ B R.handled P' (by simp;exact ln sz rfl) r1 r2 ?_;refine Ba (decide_eq_false (by simp;exact Al rm hl)) ?_;exact Ax (q σ' P' F')
theorem mT{A c L n ns Φ}:WG A c L n ns Φ:=@zF _ eX _ @kP (((A,c),L),((n,ns),Φ))
theorem C5{x m name:Str}(B:Aj)(hx:ρ x=some (.ref a))(I:Du σ a C dx n fs)(ok:DF w C m)(hf:fs m=some (.ref b))
  (I2:Du σ b C2 a5 n2 a3)(hn:a3 name=none)(M:B5 w C2 name f)(F:Ak w f fd)
  (k:AC A env a0 args ρ σ fun xs σ₂=>AF A (.ref f) (.ref b::xs) σ₂ Φ)(hk:autoParam (Ck (env.kindOf x)=true) aR)(a2:autoParam (env.scope.kind=.function) aR)(hd:autoParam ((x==("__debug__":Str))=false) aD)(hp:autoParam (CO args=true) aR)
  (a4:autoParam (∀env,A0 (.Attribute (.Name x p) m p2) env=(do
   let o ←A0 (.Name x p) env
   Cp p2.atName
   let r ←CW [o] (Lv o m true)
   Lw (.Name x p) o r
   pure r)) aW)
  (he:autoParam (A0 (.Call (.Attribute (.Attribute (.Name x p) m p2) name a1) args [] a0) env=(do
   let ov ←A0 (.Attribute (.Name x p) m p2) env
   Cp a1.atName
   let(f,first) ←CW [ov] (GZ ov name pl)
   ES a0 f first (Dp a0 (Bb args env)) (H3 a0 (H4 [] env)))) aR):
  EV A env (.Call (.Attribute (.Attribute (.Name x p) m p2) name a1) args [] a0) ρ σ Φ:=
 Xq B (BM B hx I ok hf ⟨_,_,_,_,_,_,_,rfl,I2,hn,M,F,k⟩ hk trivial a2 hd a4) hp he
theorem LD:DW c L "bank"=some (.ref (L .bk)):=by rfl
theorem JE:DW c L "unions"=some (.ref (L .un)):=by rfl
theorem Oq:DW c L "edges"=some (.ref (L .edges)):=by rfl
theorem XE:DW c L "forest"=some (.ref (L .forest)):=by rfl
theorem Q4:DW c L "known"=some (.ref (L .known)):=by rfl
theorem GK:DW c L "above"=some (.ref (L .above)):=by rfl
theorem MO:DW c L "waiting"=some (.ref (L .waiting)):=by rfl
theorem fh:DW c L "backs"=some (.int c.backs):=by rfl
theorem Iz:DW c L "changes"=some (.ref (L .changes)):=by rfl
theorem Rf:DW c L "marks"=some (.ref (L .marks)):=by rfl
theorem U1:DW c L "made"=some (.int (c.made:Nat)):=by rfl
theorem PS(B:Aj)(R:Ah A 2)(P:AS σ L c)(m:c.nodes.length≤1000)(q:Φ (.int (c.nodes.length:Nat)) σ):AF A (.ref 281) [.ref (L .hp)] σ Φ:=by
 refine AF.def (F:=(Md w)) (names:=["self"]) B R rfl (fun Lf=>?_) (FL fun n=>rfl) rfl ∅
 ·exact AJ (CD (C5 B () P.iH (LR w) LD P.iB () (ou w) (cZ w) (AC.nil (ky B (R.deeper _) P m q))))
theorem HC(B:Aj)(R:Ah A 2)(P:AS σ L c)(U:Bz c.uab)(m:a<c.uab.length)(q:Φ (.int (c.find a:Nat)) σ):AF A (.ref 310) [.ref (L .hp),.int a] σ Φ:=by
 refine AF.def (F:=(Ha w)) (names:=["self","n"]) B R rfl (fun Lf=>?_) (DG fun n n=>rfl) rfl ∅
 ·exact AJ (CD (C5 B () P.iH (JT w) JE P.iU () (Su w) (Ox w) (Ab (AG () (SY B (R.deeper _) P U m q)))))
theorem wL(B:Aj)(R:Ah A 3)(P:AS σ L c)(U:Bz c.uab)(ha:a<c.uab.length)(m:b<c.uab.length)(q:Φ (.bool (decide (c.find a=c.find b))) σ):AF A (.ref 317) [.ref (L .hp),.int a,.int b] σ Φ:=by
 refine AF.def (F:=(dW w)) (names:=["self","a","b"]) B R rfl (fun Lf=>?_) (KI fun n n n=>rfl) rfl ∅
 ·refine AJ (CD (Nf (Bu B () P.iH () (HD w) (Ha w) (Ab (AG () (HC B (R.deeper _) P U ha
   (Bu B () P.iH () (HD w) (Ha w) (Ab (AG () (HC B (R.deeper _) P U m (HP ?_)))))))))))
  have:decide (((c.find a:Nat):Int)=(c.find b:Nat))=decide (c.find a=c.find b):=decide_eq_decide.mpr (!Al cf);rw[this];exact q
theorem SD(B:Aj)(R:Ah A 3)(P:AS σ L c)(U:Bz c.uab)
  (q:∀D σ',σ' D=some (.list (nats ((B6 c.uab.length).filter fun a=>decide (c.uab[a]? =some a))))→σ D=none→AS σ' L c→Fm σ c L σ' c L→Φ (.ref D) σ'):AF A (.ref 352) [.ref (L .hp)] σ Φ:=by
 refine AF.def (F:=(OY w)) (names:=["self"]) B R rfl (fun Lf=>?_) (FL fun m=>rfl) rfl ∅
 ·exact AJ (CD (C5 B () P.iH (JT w) JE P.iU () (uc w) (bj w) (AC.nil (mP B (R.deeper _) P U q))))
theorem X0{nd:Nd}(e:c.nodes[n]? =some nd):c.canon n=(nd.1,nd.2.map c.find):=by
 unfold HS.canon HS.nd;rw[e];rfl
theorem TO(B:Aj){ks:List Nat}{x:Str}{n:Expr}{scope:C7}{a6 p1 p2 p3 p4 px:A3}{Φ:AV→AA→Prop}(R:Ah A 2)
  (k:EV A env n ρ σ fun v m=>v=.tup (nats ks)∧AS m L c∧Bz c.uab∧(∀k∈ks,k<c.uab.length)∧ks.length≤1000∧∀D,m D=none→hb.get? D=none→Φ (.ref D) (upd m D (.list (nats (ks.map c.find)))))
  (hs:ρ "self"=some (.ref (L .hp)))(a4:x≠("self":Str))(hc:Ht scope env x=true)(k1:∀C,Ck ((CR scope env C).kindOf "self")=true)(k2:∀C,Ck ((CR scope env C).kindOf x)=true)(k3:∀C,(CR scope env C).scope.kind=.function)(hd:(x==("__debug__":Str))=false)
  (a5:autoParam (∀x,G2 n env x=pure x) aI)
  (he:∀(env:Af),∃pl:Sem Bool,A0 (.Call (.Attribute (.Name "self" p1) "find" p2) [.Name x p3] [] p4) env=(do
   let ov ←A0 (.Name "self" p1) env
   Cp p2.atName
   let(f,first) ←CW [ov] (GZ ov "find" pl)
   ES p4 f first (Dp p4 (Bb [.Name x p3] env)) (H3 p4 (H4 [] env))):=by intro zz;exact⟨_,rfl⟩):
  EV A env (.ListComp (.Call (.Attribute (.Name "self" p1) "find" p2) [.Name x p3] [] p4) [⟨.Name x px,n,[],0⟩] scope a6) ρ σ Φ:=by
 refine QE R.handled (Pz (k.mono fun v m a1=>Bv a1 fun e1 P U a0=>BN a0 fun hk hl q=>⟨nats ks,e1,trivial,_,TV,by rw[AU];exact ln hl rfl,fun v=>match v with|.int i=>.int (c.find i.toNat:Nat)|v=>v,fun v hv C=>?_,fun D nD nb=>?_⟩)) hc a5
 ·refine AI (BD.mp hv) fun j hj a2=>?_;subst a2;refine AY (he (CR scope env C)) fun pl a3=>?_;refine Bu B (by rw[AP (Ne.symm a4)];show(if _ then _ else _)=_;rw[if_neg ⋯];exact hs) P.iH () (HD w) (Ha w) (Ab (AG Ar (HC B R P U (hk j hj) ⟨rfl,rfl⟩) (k2 C) (k3 C) hd)) (k1 C) (k3 C) ⋯ () (pl:=pl) a3
 ·have:(nats ks).map (fun v=>match v with|.int i=>AV.int (c.find i.toNat:Nat)|v=>v)=nats (ks.map c.find):=by
   show(ks.map _).map _=(ks.map _).map _;rw[Bx,Bx];rfl
  rw[this];exact q D nD nb
theorem Ze(B:Aj)(R:Ah A 3)(P:AS σ L c)(U:Bz c.uab){n:Nat}{nd:Nd}(e:c.nodes[n]? =some nd)(hn:c.nodes.length≤1000)(hk:∀k∈nd.2,k<c.uab.length)(hl:nd.2.length≤1000)
  (q:∀σ',An σ σ'→Φ (B1 (c.canon n).key) σ'):AF A (.ref 286) [.ref (L .hp),.int n] σ Φ:=by
 refine GU (F:=(lu w)) (names:=["self","n"]) B R rfl (fun Lf=>?_) (DG fun m m=>rfl) rfl ∅
 ·refine AJ (CD (CH (Bw (Ab (C5 B () P.iH (LR w) LD P.iB () (qU w) (cJ w) (Ab (AG () (Zan B (R.up rfl) P e hn ⟨!Cz _,FF B (JD w) Jg (Ab
   (TO B (x:="kid") (ks:=nd.2) (R.deeper _) (C5 B () P.iH (LR w) LD P.iB () (cE w) (fg w) (Ab (AG () (gD B (R.up rfl) P e hn hl ⟨rfl,P,U,hk,hl,fun D nD nb=>?_⟩))))
    () ⋯ () (fun m=>by rfl) (fun m=>by rfl) (fun m=>by rfl) ⋯))⟩))))))))
  refine Lj (Am _ _ _) (by rw[AU,AU];exact ln hl rfl) (NV (by rw[AU,AU];simp;exact A6 RN hl) ?_);rw[X0 e,GR]at q;exact q _ (.new nD)
theorem R3(F:Nat→AV):∀(xs:List (Nat×V))(k:Nat),AH (xs.map fun p=>((p.1:Int),F p.1)) (k:Int)=(AH xs k).map fun n=>F k:=by
 intro xs
 induction xs with
 |nil=>
  intro _;exact rfl
 |cons p xs m=>
  intro k;rw[CF,Fb,Fb,m k];by_cases h:p.1=k
  ·subst h;simp
  ·rw[if_neg h,if_neg (fun e=>h (jx e))]
theorem IH(P:AS σ L c)(e:AH c.abo k=some l):σ (L (.abv k))=some (.list (nats l)):=P.at_ (.abv k) _ (by show Yv _ _=_;rw[e];rfl)
theorem Hj(e:AH c.abo k=some l):AH (c.abo.map fun p=>((p.1:Int),AV.ref (L (.abv p.1)))) (k:Int)=some (.ref (L (.abv k))):=by
 rw[R3 (fun i=>AV.ref (L (.abv i))),e];rfl
theorem oz(h:js.Pairwise (· <·))(hm:∀k:Int,k∈js↔k∈ns.map fun(n:Nat)=>(n:Int)):js=(ss ns).map fun(n:Nat)=>(n:Int):=by
 have hn:∀k∈js,0≤k:=fun k m=>by
  refine AI (BD.mp ((hm k).mp m)) fun n zz a2=>?_;subst a2;exact Yc n
 have e:js=(js.map Int.toNat).map fun(n:Nat)=>(n:Int):=by
  rw[Bx];have:∀k∈js,k=((fun(n:Nat)=>(n:Int))∘Int.toNat) k:=fun k m=>by show k=((k.toNat:Nat):Int);rw[YE (hn k m)]
  exact(Dz this▸Qe js).symm
 rw[e];refine congrArg _ (Uo ?_ (Om ns) fun z=>?_)
 ·refine Np.mpr ?_;exact(h.imp_of_mem fun{a b} ha hb a4=>by have:=hn a ha;have:=hn b hb;exact wy a4 (by assumption))
 ·rw[Mb];constructor
  ·intro q;refine AI (BD.mp q) fun k m a0=>?_;subst a0;refine AI (BD.mp ((hm k).mp m)) fun n a3 a1=>?_;subst a1;simpa using a3
  ·intro q;exact BD.mpr ⟨(z:Int),(hm z).mpr (BD.mpr ⟨z,q,rfl⟩),EW z⟩
theorem lF(w:AD):Co (KK w) Bk "set"=some none:=∅
theorem lG:Gy "set"=some (.type "set"):=∅
theorem TT{p1 p2 q1 q2:A3}{x:Expr}{Φ:AV→AA→Prop}(B:Aj)(hh:A.handled=none)
  (k:EV A env x ρ σ fun v σ₂=>∃l ns,v=.ref l∧σ₂ l=some (.list (nats ns))∧ns.length<64∧∀D,σ₂ D=none→hb.get? D=none→Φ (.ref D) (upd σ₂ D (.list (nats (Internal.ss ns)))))
  (h1:autoParam (env.kindOf "sorted"=some .globalImplicit) aR)(h2:autoParam (env.kindOf "set"=some .globalImplicit) aR)(hk:autoParam (env.scope.kind=.function) aR)(hg:autoParam (env.globals=Bk) aR)(a1:autoParam (env.builtins=Tj) aR)
  (hp:autoParam (CO [x]=true) aR)(he:autoParam (∀env,Bb [.Call (.Name "set" p2) [x] [] q2] env=[(false,A0 (.Call (.Name "set" p2) [x] [] q2) env)]) aI)(hx:autoParam (∀env,Bb [x] env=(false,A0 x env)::Bb [] env) aI):
  EV A env (.Call (.Name "sorted" p1) [.Call (.Name "set" p2) [x] [] q2] [] q1) ρ σ Φ:=
 Zda hh (Fl B (MW w) Mp ⟨rfl,Fl B (lF w) lG ⟨rfl,k.mono fun v σ₂ m=>B0 m fun l ns a0=>Bv a0 fun e1 e2 a2 q=>⟨l,ns.map fun(n:Nat)=>(n:Int),e1,by rw[e2,Sl],by simpa using a2,fun js ha hm D nD nb=>by
  have:=q D nD nb;rw[oz ha hm,←Sl];exact this⟩⟩ ⋯ h2 hk hg a1⟩ ⋯ h1 hk hg a1) hp he hx
theorem vC(B:Aj)(R:Ah A 3)(P:AS σ L c)(U:Bz c.uab){a:Nat}(ha:a<c.uab.length){l:List Nat}(hl:AH c.abo (c.find a)=some l)(m:l.length<64){Φ:AV→AA→Prop}
  (q:∀D σ',σ' D=some (.list (nats (ss l)))→σ D=none→An σ σ'→Φ (.ref D) σ'):AF A (.ref 385) [.ref (L .hp),.int a] σ Φ:=by
 refine AF.def (F:=(ZB w)) (names:=["self","c"]) B R rfl (fun Lf=>?_) (DG fun zz zz=>rfl) rfl ∅
 ·have e:=P.at_ .above _ rfl;refine AJ (CD (TT B R.handled (CV (BM B () P.iH (GH w) GK (Bu B () P.iH () (HD w) (Ha w) (Ab (AG () (HC B (R.deeper _) P U ha ⟨⟨_,_,.dictI e⟩,DK.get (Fh w) e (Hj hl) ⟨_,l,rfl,IH P hl,m,fun D n nb=>?_⟩⟩))))))));exact q D _ (Am _ _ _) n (.new n)
theorem TE(k:Nd):AH (c.known.map fun p=>(p.1.key,AV.int (p.2:Nat))) k.key=(AH c.known k).map fun i=>.int (i:Nat):=PR Nd.key (fun i=>AV.int (i:Nat)) (fun m m=>Lk) _ _
theorem zI(B:Aj)(R:Ah A 3)(P:AS σ L c)(U:Bz c.uab)(hk:∀k∈ks,k<c.uab.length)(hl:ks.length≤1000)(hm:∀n,AH c.known (op,ks.map c.find)=some n→n<c.uab.length)
  (q:∀σ',An σ σ'→Φ (.int (match AH c.known (op,ks.map c.find)with|some n=>(c.find n:Nat)|none=>-1)) σ'):AF A (.ref 378) [.ref (L .hp),.str op,.tup (nats ks)] σ Φ:=by
 refine GU (F:=(bS w)) (names:=["self","op","classes"]) B R rfl (fun Lf=>?_) (KI fun zz zz zz=>rfl) rfl ∅
 ·refine AJ (BR (Na (l:=L .known) PySem.F.slot_dict_get PySem.F.type_dict_get (BM B () P.iH (Ss w) Q4 ⟨rfl,.inr (.inr ⟨_,P.at_ .known _ rfl⟩),BX (CH (Bw (Ab (AG () ⟨!Cz _,FF B (JD w) Jg (Ab
   (TO B (x:="c") (ks:=ks) (R.deeper _) (AG () ⟨rfl,P,U,hk,hl,fun D nD nb=>?_⟩) () ⋯ () (fun zz=>by rfl) (fun zz=>by rfl) (fun zz=>by rfl) ⋯))⟩))))⟩)))
  refine Lj (Am _ _ _) (by rw[AU,AU];exact ln hl rfl) (NV (by rw[AU,AU];simp;exact A6 RN hl) ?_);have P1:=P.ext (.new (x:=.list (nats (ks.map c.find))) nD);have e0:AV.tup ([AV.str op]++nats (ks.map c.find))=B1 (Nd.key (op,ks.map c.find)):=(GR (op,ks.map c.find)).symm;rw[e0];refine Px (BB (QF ?_));refine Zea (R.deeper _ |>.mono (!ld rfl):Ah _ 1).u1 (P1.at_ .known _ rfl) P1.n1.2.1 ?_;rw[TE];have q':=q _ (.new (x:=.list (nats (ks.map c.find))) nD);cases hq:AH c.known (op,ks.map c.find)with
  |none=>
   rw[hq]at q';refine A2 (AJ (CD (NY (Bj (AG Ar (BB (NL (BO ?_))))))));have:decide ((-1:Int)<0)=true:=rfl;refine CQ this ?_;exact Px (BB (QF q'))
  |some m=>
   rw[hq]at q';have a0:=hm m hq;refine A2 (AJ (CD (NY (Bj (AG Ar (BB (NL (BO ?_))))))));have:decide (((m:Nat):Int)<0)=false:=decide_eq_false (!A6 xa);refine Ba this ?_;exact Bu B () P1.iH () (HD w) (Ha w) (Ab (AG Ar (HC B (R.deeper _) P1 U a0 q')))
theorem qM(w:AD):OZ w (gO w) 396 460 "self":=
 ⟨⟨_,by rfl,by rfl⟩,⟨444,_,_,_,_,_,_,by rfl,rfl,by rfl,∅⟩,⟨_,_,_,rfl⟩,⟨_,rfl⟩,∅,∅,∅,∅⟩
theorem qx(w:AD):OZ w (fF w) 396 460 "self":=
 ⟨⟨_,by rfl,by rfl⟩,⟨436,_,_,_,_,_,_,by rfl,rfl,by rfl,∅⟩,⟨_,_,_,rfl⟩,⟨_,rfl⟩,∅,∅,∅,∅⟩
theorem zL(w:AD):OZ w (Zv w) 396 460 "self":=
 ⟨⟨_,by rfl,by rfl⟩,⟨407,_,_,_,_,_,_,by rfl,rfl,by rfl,∅⟩,⟨_,_,_,rfl⟩,⟨_,rfl⟩,∅,∅,∅,∅⟩
theorem VJ(w:AD):(KK w).lookup 460≠none:=by
 intro h;have:((KK w).lookup 460).isSome=true:=∅
 rw[h]at this;cases this
theorem mX(w:AD):Rl w 460 460 "join" 331:=⟨∅,∅,∅,∅,by decide,VJ w⟩
theorem kH(w:AD):Rl w 460 460 "look_at" 303:=⟨∅,∅,∅,∅,by decide,VJ w⟩
theorem xO(w:AD):Rl w 460 460 "__init__" 274:=⟨∅,∅,∅,∅,by decide,VJ w⟩
structure D0(c:HS):Prop where
 U:Bz c.uab
 O:Of c
 B:RL c
 nl:c.nodes.length=c.uab.length
 kids:∀(n:Nat)(nd:Nd),c.nodes[n]? =some nd→nd.2.length≤2∧∀k∈nd.2,k<c.uab.length
 abo:∀i:Nat,c.uab[i]? =some i→∃l,AH c.abo i=some l∧l.length≤40
 kn:∀k n,AH c.known k=some n→n<c.uab.length
 z1:c.known.length≤500
 z2:c.changes.length≤800
 z3:c.edges.length≤500
 z4:c.forest.length≤500
 z5:c.waiting.length≤500
 z6:c.abo.length≤500
theorem iQ(U:Bz c.uab)(m:a<c.uab.length):c.find a<c.uab.length:=by
 have:=Jy c.uab a;show root c.uab a<_;exact AK (CG this) m
theorem NQ(U:Bz c.uab){a:Nat}(m:a<c.uab.length):c.uab[c.find a]? =some (c.find a):=gH U m
set_option tactic.hygienic true in
def Va(σ:AA)(c:HS)(L:AZ)(chs:List Ch)(k:Nat)(many:Nat)(g:Nat)(lg:List Nat)(Ψ:AA→Prop):Prop:=∀(P:AS σ L c)(m:c.changes=chs++[.loose k many g])(hL:L (.users chs.length)=L (.abv g))(n:AH c.abo g=some lg)(q:∀σ',AS σ' L {c with abo:=BP c.abo g,changes:=chs++[.edge k many g lg]}→Fm σ c L σ' {c with abo:=BP c.abo g,changes:=chs++[.edge k many g lg]} L→Ψ σ'),Ψ (Internal.upd σ (L .above) (.dictI (BP (c.abo.map fun p=>((p.1:Int),AV.ref (L (.abv p.1)))) (g:Int))))
def f8:(((AA×HS)×AZ)×(List Ch×Nat))×((Nat×Nat)×(List Nat×(AA→Prop)))→Prop:=fun t=>Va t.1.1.1.1 t.1.1.1.2 t.1.1.2 t.1.2.1 t.1.2.2 t.2.1.1 t.2.1.2 t.2.2.1 t.2.2.2
def JL:=zE f8 (((((fun _=>none),De),(fun _=>0)),([],0)),((0,0),([],(fun _=>True))))
def mA:=JL.1.1.1.1
def Eb:=JL.1.1.1.2
def Gm:=JL.1.1.2
def HJ:=JL.1.2.1
def OK:=JL.1.2.2
def Oc:=JL.2.1.1
def Dg:=JL.2.1.2
def LW:=JL.2.2.1
def xu:=JL.2.2.2
set_option tactic.hygienic true in
theorem yq:Va mA Eb Gm HJ OK Oc Dg LW xu:=fun P hc hL hg q=>by
 have e0:BP (Eb.abo.map fun p=>((p.1:Int),AV.ref (Gm (.abv p.1)))) (Dg:Int)=(BP Eb.abo Dg).map fun p=>((p.1:Int),AV.ref (Gm (.abv p.1))):=by
  unfold BP;rw[Js];refine congrArg _ (UN fun p _=>?_);simp only[N9];exact decide_eq_decide.mpr (!Al Zr)
 rw[e0];have a3:∀i,AH (BP Eb.abo Dg) i=if i=Dg then none else AH Eb.abo i:=fun i=>by
  unfold BP AH;rw[List.find?_filter];by_cases h:i=Dg
  ·rw[if_pos h,Yw.mpr];rfl;intro p _;simp only[decide_not,Zfu,Iv,decide_eq_false_iff_not,Fq,decide_eq_true_eq,not_and];intro h1 h2;exact h1 (h2.trans h)
  ·rw[if_neg h];refine congrArg _ (congrArg (fun f=>List.find? f Eb.abo) (funext fun p=>?_));by_cases hp:p.1=i
   ·simp[hp,h]
   ·simp[hp]
 have m:Aw Eb Gm (.abv Dg)=some (.list (nats LW)):=by show Yv _ _=_;rw[hg];rfl
 have key:∀s y,s≠.above→Aw {Eb with abo:=BP Eb.abo Dg,changes:=HJ++[.edge OK Oc Dg LW]} Gm s=some y→(Aw Eb Gm s=some y∧s≠.abv Dg∧s≠.users HJ.length)∨(s=.users HJ.length∧y=.list (nats LW)):=by
  intro s y hs h;cases s<;>first|exact absurd rfl hs|exact .inl ⟨h,by simp,by simp⟩|skip
  ·rename_i i;change(AH (BP Eb.abo Dg) i).map _=_ at h;rw[a3]at h;by_cases hi:i=Dg
   ·rw[if_pos hi]at h;cases h
   ·rw[if_neg hi]at h;exact .inl ⟨h,by simpa using hi,!(by intro e;injection e)⟩
  ·refine .inl ⟨?_,!(by intro e;injection e),!(by intro e;injection e)⟩;rw[←h];show some (AO.list (Eb.changes.zipIdx.map _))=some (AO.list ((HJ++[Ch.edge OK Oc Dg LW]).zipIdx.map _));rw[hc,OA,OA,Cw,Cw];rfl
  ·rename_i j;change((HJ++[Ch.edge OK Oc Dg LW])[j]?.bind _)=_ at h;by_cases hj:j=HJ.length
   ·subst hj;rw[It (A9 _),Qf]at h;exact .inr ⟨rfl,(Ao h).symm⟩
   ·refine .inl ⟨?_,!(by intro e;injection e),by simpa using hj⟩;rw[←h];show(Eb.changes[j]?.bind _)=_;rw[hc];by_cases hl:j<HJ.length
    ·rw[Es hl,Es hl]
    ·rw[Lz (by simp;exact Al dD hj hl),Lz (by simp;exact Al dD hj hl)]
 have ne:Gm .above≠Gm (.abv Dg):=fun e=>by
  have:=P.inj .above (.abv Dg) (!(by intro e;injection e)) (by rw[m];exact Ag _) e;exact nomatch this
 refine q _ ⟨fun s y hy=>?_,fun s t hs ht e=>?_,P.n1⟩ ⟨fun a n f=>Au _ _ fun e=>f ⟨.above,!(by intro e;injection e),e.symm⟩,fun a a1=>AI a1 fun s hs e=>.inl ?_,rfl⟩
 ·by_cases h:s=.above
  ·subst h;rw[Am];exact hy
  ·rcases key s y h hy with⟨h1,h2,h3⟩|⟨rfl,rfl⟩
   ·rw[Au _ _ (fun e=>h (P.inj s .above (by rw[h1];exact Ag _) (!(by intro e;injection e)) e))];exact P.at_ s y h1
   ·rw[hL,Au _ _ (Ne.symm ne)];exact P.at_ _ _ m
 ·have cls:∀s,Aw {Eb with abo:=BP Eb.abo Dg,changes:=HJ++[.edge OK Oc Dg LW]} Gm s≠none→s=.above∨(Aw Eb Gm s≠none∧s≠.abv Dg∧s≠.users HJ.length)∨s=.users HJ.length:=fun s hs=>by
   by_cases h:s=.above
   ·exact .inl h
   ·refine AY (ER.mp hs) fun y hy=>?_;rcases key s y h hy with⟨h1,h2,h3⟩|⟨h1,_⟩
    ·exact .inr (.inl ⟨by rw[h1];exact Ag _,h2,h3⟩)
    ·exact .inr (.inr h1)
  have a0:∀s,s=.above∨(Aw Eb Gm s≠none∧s≠.abv Dg∧s≠.users HJ.length)→Aw Eb Gm s≠none∧s≠.abv Dg:=fun s h=>by
   rcases h with rfl|⟨h1,h2,_⟩
   ·exact⟨!(by intro e;injection e),!nofun⟩
   ·exact⟨h1,h2⟩
  have a2:Aw Eb Gm (.abv Dg)≠none:=by rw[m];exact Ag _
  rcases(cls s hs).elim (fun h=>Or.inl (a0 s (.inl h))) (fun h=>h.elim (fun h=>Or.inl (a0 s (.inr h))) Or.inr)with⟨s1,s2⟩|s1<;>
   rcases(cls t ht).elim (fun h=>Or.inl (a0 t (.inl h))) (fun h=>h.elim (fun h=>Or.inl (a0 t (.inr h))) Or.inr)with⟨t1,t2⟩|t1
  ·exact P.inj s t s1 t1 e
  ·subst t1;rw[hL]at e;exact absurd (P.inj s _ s1 a2 e) s2
  ·subst s1;rw[hL]at e;exact absurd (P.inj t _ t1 a2 e.symm) t2
  ·rw[s1,t1]
 ·by_cases h:s=.above
  ·subst h;exact⟨.above,!(by intro e;injection e),e⟩
  ·refine AY (ER.mp hs) fun y hy=>?_;rcases key s y h hy with⟨h1,h2,h3⟩|⟨h1,_⟩
   ·exact⟨s,by rw[h1];exact Ag _,e⟩
   ·subst h1;exact⟨.abv Dg,by rw[m];exact Ag _,by rw[←hL];exact e⟩
theorem AS.users{σ c L chs k many g lg Ψ}:Va σ c L chs k many g lg Ψ:=@zF _ f8 _ @yq ((((σ,c),L),(chs,k)),((many,g),(lg,Ψ)))
abbrev Gk(c:HS)(ch:Ch):HS:={c with changes:=c.changes++[ch]}
abbrev Oi(c:HS)(L:AZ):List AV:=c.changes.zipIdx.map fun p=>FP L p.2 p.1
theorem Zeb(L:AZ)(s:Slot):L.put s (L s)=L:=funext fun t=>by
 by_cases h:t=s
 ·rw[h,Fn]
 ·rw[Bd _ _ h]
set_option tactic.hygienic true in
theorem AS.log(P:AS σ L c){ch:Ch}{a:AB}(a3:∀k m g us,ch≠.edge k m g us){Ψ:AA→Prop}
  (q:∀σ',AS σ' (L.put (.users c.changes.length) a) (Gk c ch)→Fm σ c L σ' (Gk c ch) (L.put (.users c.changes.length) a)→Ψ σ'):
  Ψ (Internal.upd σ (L .changes) (.list (Oi c L++[FP (L.put (.users c.changes.length) a) c.changes.length ch]))):=by
 have key:∀s y,s≠.changes→Aw (Gk c ch) (L.put (.users c.changes.length) a) s=some y→Aw c L s=some y∧L.put (.users c.changes.length) a s=L s:=by
  intro s y hs h;rw[Uw (m:=.changes) rfl hs]at h;cases s<;>first|exact absurd rfl hs|exact⟨h,rfl⟩|skip
  rename_i j;change((c.changes++[ch])[j]?.bind _)=_ at h;by_cases hj:j<c.changes.length
  ·rw[Es hj]at h;exact⟨h,Bd _ _ (by intro e;obtain rfl:=Internal.Slot.users.inj e;exact absurd hj (EP _))⟩
  ·exfalso;rw[It (!EU hj)]at h;by_cases h0:j-c.changes.length=0
   ·rw[h0]at h;cases ch with
    |edge k m g us=>exact a3 k m g us rfl
    |_=>cases h
   ·refine AY (jz h0) fun i hi=>?_;rw[hi]at h;cases h
 have a0:Aw c L .changes≠none:=by exact(by intro e;injection e)
 have e0:Aw (Gk c ch) (L.put (.users c.changes.length) a) .changes=some (.list (Oi c L++[FP (L.put (.users c.changes.length) a) c.changes.length ch])):=by
  show some (AO.list ((c.changes++[ch]).zipIdx.map _))=_;rw[OA,Cw];have:c.changes.zipIdx.map (fun p=>FP (L.put (.users c.changes.length) a) p.2 p.1)=Oi c L:=by
   refine Dz fun p hp=>?_;obtain⟨x,j⟩:=p;have hj:j<c.changes.length:=by
    have:=List.mem_zipIdx hp;exact Nat.lt_of_lt_of_eq this.2.1 (Nat.zero_add _)
   have:L.put (.users c.changes.length) a (.users j)=L (.users j):=Bd _ _ (by intro e;obtain rfl:=Internal.Slot.users.inj e;exact absurd hj (EP _));cases x<;>first|rfl|(show AV.tup [_,_,_,_,.ref (L.put _ _ (.users j))]=_;rw[this];rfl)
  rw[this];simp
 have Lc:L.put (.users c.changes.length) a .changes=L .changes:=Bd _ _ (!(by intro e;injection e));have a1:∀s,Aw (Gk c ch) (L.put (.users c.changes.length) a) s≠none→Aw c L s≠none∧L.put (.users c.changes.length) a s=L s:=fun s hs=>by
  by_cases h:s=.changes
  ·subst h;exact⟨a0,Lc⟩
  ·refine AY (ER.mp hs) fun y hy=>?_;refine AL (key s y h hy) fun h1 h2=>?_;exact⟨by rw[h1];exact Ag _,h2⟩
 refine q _ ⟨fun s y hy=>?_,fun s t hs ht e=>?_,?_⟩ ⟨fun b n f=>Au _ _ fun e=>f ⟨.changes,a0,e.symm⟩,fun b a2=>AI a2 fun s hs e=>.inl ?_,Bd _ _ (!(by intro e;injection e))⟩
 ·by_cases h:s=.changes
  ·subst h;rw[Lc,Am,←hy,e0]
  ·refine AL (key s y h hy) fun h1 h2=>?_;rw[h2,Au _ _ (fun e=>h (P.inj s .changes (by rw[h1];exact Ag _) a0 e))];exact P.at_ s y h1
 ·refine AL (a1 s hs) fun h1 h2=>?_;refine AL (a1 t ht) fun h3 h4=>?_;rw[h2,h4]at e;exact P.inj s t h1 h3 e
 ·rw[Bd _ _ (!(by intro e;injection e)),Bd _ _ (!(by intro e;injection e)),Bd _ _ (!(by intro e;injection e))];exact P.n1
 ·refine AL (a1 s hs) fun h1 h2=>?_;exact⟨s,h1,by rw[←h2];exact e⟩
theorem AS.log'(P:AS σ L c)(n:∀k m g us,ch≠.edge k m g us){Ψ:AA→Prop}
  (q:∀σ',AS σ' L (Gk c ch)→Fm σ c L σ' (Gk c ch) L→Ψ σ'):
  Ψ (Internal.upd σ (L .changes) (.list (Oi c L++[FP L c.changes.length ch]))):=by
 have:=P.log (ch:=ch) (a:=L (.users c.changes.length)) n (Ψ:=Ψ);rw[Zeb]at this;exact this q
theorem Zy(m:AZ)(e:AH c.abo k=some lk):
  Av (c.abo.map fun p=>((p.1:Int),AV.ref (m (.abv p.1)))) (k:Int) (.ref D)=(Av c.abo k l).map fun p=>((p.1:Int),AV.ref (m.put (.abv k) D (.abv p.1))):=by
 have n:AH (c.abo.map fun p=>((p.1:Int),AV.ref (m (.abv p.1)))) (k:Int)=some (.ref (m (.abv k))):=Hj (L:=m) e;unfold Av;rw[n,e];simp only[Qd,if_true];rw[Bx,Bx];refine Dz fun p zz=>?_;simp only[N9];by_cases h:p.1=k
 ·subst h;rw[if_pos rfl,if_pos rfl,Fn]
 ·rw[if_neg (!Al Qn h),if_neg h,Bd _ _ (by simpa using h)]
theorem w3{K V:Type}[DecidableEq K]{k j:K}{v:V}:∀{xs:List (K×V)},AH (xs.map fun p=>if p.1=k then(p.1,v)else p) j=if j=k then(AH xs k).map fun zz=>v else AH xs j:=by
 intro xs
 induction xs with
 |nil=>
  by_cases h:j=k<;>simp[AH,h]
 |cons p xs n=>
  rw[CF,Fb,n,Fb,Fb];by_cases hp:p.1=k
  ·rw[if_pos hp,if_pos hp];by_cases m:j=k
   ·subst m;simp[hp]
   ·rw[if_neg m,if_neg m,if_neg (by rw[hp];exact Ne.symm m),if_neg (by rw[hp];exact Ne.symm m)]
  ·rw[if_neg hp,if_neg hp];by_cases m:j=k
   ·subst m;simp[hp]
   ·simp[m]
theorem Hw{K V:Type}[DecidableEq K]{k j:K}{v:V}:∀{xs:List (K×V)},AH (xs++[(k,v)]) j=(AH xs j).or (if j=k then some v else none):=by
 intro xs
 induction xs with
 |nil=>
  rw[List.nil_append,Fb];by_cases h:k=j
  ·subst h;exact rfl
  ·rw[if_neg h,if_neg (Ne.symm h)];rfl
 |cons p xs m=>
  rw[List.cons_append,Fb,Fb,m];by_cases hp:p.1=j
  ·rw[if_pos hp,if_pos hp];rfl
  ·rw[if_neg hp,if_neg hp]
theorem Dt{K V:Type}[DecidableEq K]{xs:List (K×V)}{k j:K}{v:V}:AH (Av xs k v) j=if j=k then some v else AH xs j:=by
 unfold Av;by_cases h:(AH xs k).isSome=true
 ·rw[if_pos h,w3];refine AY (Lu.mp h) fun y n=>?_;rw[n];rfl
 ·rw[if_neg h,Hw];have h:AH xs k=none:=by simpa using h
  by_cases m:j=k
  ·subst m;rw[h,if_pos rfl];rfl
  ·rw[if_neg m,if_neg m,Yx]
theorem Ry{K V:Type}[DecidableEq K]{xs:List (K×V)}{k j:K}:AH (BP xs k) j=if j=k then none else AH xs j:=by
 unfold BP AH;rw[List.find?_filter];by_cases h:j=k
 ·rw[if_pos h,Yw.mpr];rfl;intro p _;simp only[decide_not,Zfu,Iv,decide_eq_false_iff_not,decide_eq_true_eq,not_and];intro n m;exact n (m.trans h)
 ·rw[if_neg h];refine congrArg _ (congrArg (fun f=>List.find? f xs) (funext fun p=>?_));by_cases hp:p.1=j
  ·simp[hp,h]
  ·simp[hp]
theorem Wc(c:HS){a b:Nat}(U:Bz c.uab)(ha:a<c.uab.length)(hb:b<c.uab.length):c.uab[min (c.find a) (c.find b)]? =some (min (c.find a) (c.find b))∧c.uab[max (c.find a) (c.find b)]? =some (max (c.find a) (c.find b)):=by
 have n:=NQ U ha;have m:=NQ U hb;rcases Ni (c.find a) (c.find b)with h|h
 ·rw[Tf h,Th h];exact⟨n,m⟩
 ·rw[Tg h,Ti h];exact⟨m,n⟩
def MT(c:HS)(chs:List Ch)(many:Nat)(a b:Nat)(r:AV):HS:=
 let k:=min (c.find a) (c.find b);let g:=max (c.find a) (c.find b)
 if c.find a=c.find b then{c with edges:=c.edges++[.tup [.int a,.int b,r]]}
 else{HI c k g with changes:=chs++[.edge k many g (c.ab g)],edges:=c.edges++[.tup [.int a,.int b,r]],forest:=c.forest++[c.edges.length],waiting:=c.waiting++c.ab g,abo:=Av (BP c.abo g) k (c.ab k++c.ab g)}
structure ND(c:HS):Prop where
 U:Bz c.uab
 O:Of c
 abo:∀i:Nat,c.uab[i]? =some i→∃l,AH c.abo i=some l∧l.length≤40
 z3:c.edges.length≤500
 z4:c.forest.length≤500
 z5:c.waiting.length≤500
 z6:c.abo.length≤500
theorem yy(c:HS)(a b:Nat)(r:AV):c.join a b r=MT (Gk c (.loose (min (c.find a) (c.find b)) (c.ab (min (c.find a) (c.find b))).length (max (c.find a) (c.find b)))) c.changes (c.ab (min (c.find a) (c.find b))).length a b r:=by
 unfold HS.join MT;by_cases h:c.find a=c.find b
 ·show(if c.find a=c.find b then _ else _)=if c.find a=c.find b then _ else _;rw[if_pos h,if_pos h,show max (c.find a) (c.find b)=min (c.find a) (c.find b) by rw[h];exact rfl]
 ·have h':(Gk c (.loose (min (c.find a) (c.find b)) (c.ab (min (c.find a) (c.find b))).length (max (c.find a) (c.find b)))).find a≠(Gk c (.loose (min (c.find a) (c.find b)) (c.ab (min (c.find a) (c.find b))).length (max (c.find a) (c.find b)))).find b:=h;simp only[h',h,if_false];rfl
def WY(σ:AA)(A:AX)(c:HS)(L:AZ)(a:Nat)(b:Nat)(r:AV)(chs:List Ch)(many:Nat)(Φ:AV→AA→Prop):Prop:=∀(B:Aj)(R:Ah A 3)(P:AS σ L c)(S:ND c)(ha:a<c.uab.length)(m:b<c.uab.length)(n:c.changes=chs++[.loose (min (c.find a) (c.find b)) many (max (c.find a) (c.find b))])(hL:L (.users chs.length)=L (.abv (max (c.find a) (c.find b))))(q:∀L' σ',AS σ' L' (MT c chs many a b r)→Fm σ c L σ' (MT c chs many a b r) L'→Φ (.bool (decide (c.find a≠c.find b))) σ'),EA A (.ref 331) [.ref (L .hp),.int a,.int b,r] σ Φ
def fT:(((AA×AX)×HS)×(AZ×Nat))×(((Nat×AV)×List Ch)×(Nat×(AV→AA→Prop)))→Prop:=fun t=>WY t.1.1.1.1 t.1.1.1.2 t.1.1.2 t.1.2.1 t.1.2.2 t.2.1.1.1 t.2.1.1.2 t.2.1.2 t.2.2.1 t.2.2.2
def H9:=zE fT (((((fun _=>none),{}),De),((fun _=>0),0)),(((0,.none),[]),(0,(fun _ _=>True))))
def tS:=H9.1.1.1.1
def yO:=H9.1.1.1.2
def BL:=H9.1.1.2
def Jh:=H9.1.2.1
def Ef:=H9.1.2.2
def Ea:=H9.2.1.1.1
def Hu:=H9.2.1.1.2
def XI:=H9.2.1.2
def Ui:=H9.2.2.1
def xh:=H9.2.2.2
theorem Zc7:WY tS yO BL Jh Ef Ea Hu XI Ui xh:=fun B R P S ha a4 hc hL q=>by
 have z3:=S.z3;have z4:=S.z4;have z5:=S.z5;have z6:=S.z6;refine EA.def (F:=(nr w)) (names:=["self","a","b","reason"]) B R rfl (fun Lf=>?_) (Ku fun _ _ _ _=>rfl) rfl ∅
 ·have e1:=P.at_ .edges _ rfl;refine AJ (Bg (Cd Fu Fv (BM B () P.iH (OU w) Oq ⟨rfl,e1,
   Ab (Bw (AC.cons (AG () (BX (AG () (AG () ⟨!ld rfl,FC e1 (!ln z3 rfl) ?_⟩))))))⟩)))
  refine C4 P .edges (c':={BL with edges:=BL.edges++[.tup [.int Ef,.int Ea,Hu]]}) (by first|exact Ag _|(show some _=some _;simp)) fun a6 P1 F1 _=>?_
  refine AJ (BR (C5 B () P1.iH (JT w) JE P1.iU () (qD w) (Zx w) (BX (AG () (AG () (kM B (R.deeper _) P1 S.U ⟨S.O.len,S.O.sz,S.O.m⟩ ha a4 (fun e a0 P2 F2=>?_) (fun e a0 P2 F2=>?_)))))))
  ·refine A2 ?_;refine AJ (CP (Bj (AG Ar (Xm (iN (b:=true) (fun h v Hu=>by obtain rfl:=Xp Hu;rfl) (BO ?_))))));refine CQ rfl ?_;have e':BL.find Ef=BL.find Ea:=e;refine AJ (CD (Ln ?_));have q':=q Jh a0;unfold MT at q';simp only[e',if_pos,ne_eq,not_true_eq_false,decide_false]at q';exact q' P2 (F1.trans F2)
  ·have e':BL.find Ef≠BL.find Ea:=e;have q':=q;unfold MT at q';simp only[e',if_false,ne_eq,not_false_eq_true,decide_true]at q';refine AL (Wc BL S.U ha a4) fun hk hg=>?_;change ∀σ',_ at q;change AS a0 Jh {HI BL (min (BL.find Ef) (BL.find Ea)) (max (BL.find Ef) (BL.find Ea))with edges:=_}at P2;change Fm a6 _ Jh a0 {HI BL (min (BL.find Ef) (BL.find Ea)) (max (BL.find Ef) (BL.find Ea))with edges:=_} Jh at F2;show AQ _ _ _ (.tup [.int (min (BL.find Ef) (BL.find Ea):Nat),.int (max (BL.find Ef) (BL.find Ea):Nat)]) _ _ _;have a7:min (BL.find Ef) (BL.find Ea)≠max (BL.find Ef) (BL.find Ea):=by exact ve e'
   generalize min (BL.find Ef) (BL.find Ea)=k at*;generalize max (BL.find Ef) (BL.find Ea)=g at*;refine AI (S.abo k hk) fun lk a1 a5=>?_;refine AI (S.abo g hg) fun lg n a3=>?_;have ek:BL.ab k=lk:=by unfold HS.ab;rw[a1];rfl
   have eg:BL.ab g=lg:=by unfold HS.ab;rw[n];rfl
   rw[ek,eg]at q';refine A2 ?_;refine AJ (CP (Bj (AG Ar (Xm (iN (b:=false) (fun h v Hu=>by cases Hu;rfl) (BO ?_))))));refine Ba rfl ?_;refine Ax ?_;refine AJ (BR (AG Ar (FB R.handled (.tup _) rfl (BZ (A2 (BZ (A2 (Dm ?_))))))));have e2:=P2.at_ .forest _ rfl;have e3:=P2.at_ .edges _ rfl;refine AJ (Bg (Cd Fu Fv (BM B () P2.iH (VG w) XE ⟨rfl,e2,
    Ab (CH (Bo B (Cb w) Ca (Ab (BM B () P2.iH (OU w) Oq (Cj e3 (by simp;exact ln z3 rfl) (BB (NN (FC e2 (by rw[AU];show BL.forest.length≤_;exact ln z4 rfl) ?_))))))))⟩)))
   have el:(((BL.edges++[AV.tup [.int Ef,.int Ea,Hu]]).length:Nat):Int)-1=(BL.edges.length:Nat):=by simp
   rw[el];refine C4 P2 .forest (c':={HI BL k g with edges:=BL.edges++[.tup [.int Ef,.int Ea,Hu]],forest:=BL.forest++[BL.edges.length]}) (by first|exact Ag _|(show some _=some _;simp)) fun b1 P3 F3 _=>?_
   have e4:=P3.at_ .waiting _ rfl;have e5:=P3.at_ .above _ rfl;have e6:=IH P3 n;refine AJ (Bg (Cd jM Zfr (BM B () P3.iH (OQ w) MO ⟨rfl,e4,
    Ab (HM B () P3.iH (GH w) GK () (.dictI e5) (DK.get (Fh w) e5 (Hj n) (ij e4 e6 (by rw[AU,AU];show BL.waiting.length+_≤_;exact Al oq z5 a3) ?_)))⟩)))
   refine C4 P3 .waiting (c':={HI BL k g with edges:=BL.edges++[.tup [.int Ef,.int Ea,Hu]],forest:=BL.forest++[BL.edges.length],waiting:=BL.waiting++lg}) (by first|exact Ag _|(show some _=some _;simp)) fun b2 P4 F4 _=>?_
   have e5:=P4.at_ .above _ rfl;have e6:=IH P4 n;have e7:=IH P4 a1;refine AJ (BR (CH (HM B () P4.iH (GH w) GK () (.dictI e5) (DK.get (Fh w) e5 (Hj a1)
    (Na (l:=Jh .above) YZ Zft (BM B () P4.iH (GH w) GK ⟨rfl,.inl ⟨_,e5⟩,Ab (AG () (DK.pop (Fh w) e5 (by rw[AU];show BL.abo.length≤_;exact ln z6 rfl) (Hj n) ?_))⟩))))))
   refine P4.users (c:={HI BL k g with edges:=BL.edges++[.tup [.int Ef,.int Ea,Hu]],forest:=BL.forest++[BL.edges.length],waiting:=BL.waiting++lg}) (k:=k) (many:=Ui) (g:=g) (lg:=lg) hc hL n
    (Ψ:=fun σ'=>AM _ (Ke .Add) (.ref (Jh (.abv k))) (.ref (Jh (.abv g))) σ' _) fun a8 P5 F5=>?_
   have e6:=P5.at_ (.users XI.length) (.list (nats lg)) (by show Option.bind _ _=_;simp);rw[hL]at e6;have a2:AH (BP BL.abo g) k=some lk:=by rw[Ry,if_neg a7];exact a1
   have e7:=IH P5 a2;refine Ka e7 e6 (by rw[AU,AU];exact Al mr a5 a3) fun D nD nb=>?_;refine Pv P5 nD fun a9 hD P6 F6 nf ks=>?_;have e8:=P6.at_ .above _ rfl;refine KZ (BM B () P6.iH (GH w) GK (AG () (DK.set (Fh w) e8 (by rw[AU];show(BP BL.abo g).length≤_;unfold BP;have:=OB (fun p=>decide (p.1≠g)) BL.abo;exact ln (AK this z6) rfl) ?_)));have e9:=Zy (c:={BL with abo:=BP BL.abo g}) Jh (l:=lk++lg) (D:=D) a2;refine TP P6 (.abv k) .above (τ:=a8) (c':={HI BL k g with changes:=XI++[.edge k Ui g lg],edges:=BL.edges++[.tup [.int Ef,.int Ea,Hu]],forest:=BL.forest++[BL.edges.length],waiting:=BL.waiting++lg,abo:=Av (BP BL.abo g) k (lk++lg)}) (x:=.list (nats lk++nats lg)) hD nD F6 nf rfl ?_ ?_ (fun t t0 t1 z hz=>?_) fun b0 P7 F7=>?_
   ·show((AH (Av _ _ _) _).map _)=_;rw[Dt,if_pos rfl];show some (AO.list ((lk++lg).map _))=_;rw[Cw]
   ·show some (AO.dictI _)=some (AO.dictI _);exact congrArg (fun x=>some (AO.dictI x)) e9.symm
   ·cases t<;>first|exact hz|exact absurd rfl t1|skip
    rename_i i;change((AH (Av _ _ _) i).map _)=_ at hz;rw[Dt,if_neg (fun e=>t0 (by rw[e]))]at hz;exact hz
   ·exact AJ (CD (Ln (q' _ _ P7 (F1.trans (F2.trans (F3.trans (F4.trans (F5.trans F7))))))))
theorem zA{σ A c L a b r chs many Φ}:WY σ A c L a b r chs many Φ:=@zF _ fT _ @Zc7 ((((σ,A),c),(L,a)),(((b,r),chs),(many,Φ)))
theorem au(B:Aj)(R:Ah A 5)(P:AS σ L c)(S:ND c)(z2:c.changes.length≤900)(ha:a<c.uab.length)(n:b<c.uab.length)
  (q:∀L' σ',AS σ' L' (c.join a b r)→Fm σ c L σ' (c.join a b r) L'→Φ (.bool (decide (c.find a≠c.find b))) σ'):AF A (.ref 445) [.ref (L .hp),.int a,.int b,r] σ Φ:=by
 refine .of (Xz (F:=(UV w)) (names:=["self","a","b","reason"]) B R rfl (fun Lf=>?_) (Ku fun zz zz zz zz=>rfl) rfl ∅)
 ·refine Cs.cons (.of (BR (Bo B (MW w) Mp (Ab (Da (BX
   (Bu B () P.iH () (HD w) (Ha w) (Ab (AG () (HC B (R.up rfl) P S.U ha ?_))))))))))
  refine Bu B () P.iH () (HD w) (Ha w) (Ab (AG () (HC B (R.up rfl) P S.U n ?_)));refine⟨!ld rfl,fun D na nb=>?_⟩;refine Lh P na fun a5 hD P1 F1 nf ks=>?_;refine TL (is:=[(c.find a:Nat),(c.find b:Nat)]) hD (!ld rfl) fun js hp hs E nE b0=>?_;have hj:=VM hp hs;subst hj;refine AL (Wc c S.U ha n) fun hk hg=>?_;rw[yy]at q;refine Pv P1 nE fun a6 hE P2 F2 a8 a7=>?_;refine FB R.handled (.list hE) rfl (BZ (A2 (BZ (A2 (Dm ?_)))));refine AI (S.abo _ hk) fun lk a0 a1=>?_;refine AI (S.abo _ hg) fun lg a3 a4=>?_;have ek:c.ab (min (c.find a) (c.find b))=lk:=by unfold HS.ab;rw[a0];rfl
  have e1:=P2.at_ .changes _ rfl;have e5:=P2.at_ .above _ rfl;refine Cs.cons (.of (Bg (Cd Fu Fv (BM B () P2.iH (Jd w) Iz ⟨rfl,e1,Ab (Bw ?_)⟩))));refine AC.cons (DJ (AC.cons (AG () (AC.cons (Bo B (Cb w) Ca (Ab (HM B () P2.iH (GH w) GK () (.dictI e5) (DK.get (Fh w) e5 (Hj a0) ?_))))))));refine Cj (IH P2 a0) (by rw[AU];exact ln a1 rfl) (BX (AG () (HM B () P2.iH (GH w) GK () (.dictI e5) (DK.get (Fh w) e5 (Hj a3) ?_))));refine⟨!ld rfl,FC e1 (by rw[AU,Et];exact ln z2 rfl) ?_⟩;rw[AU,←ek];have a2:FP (L.put (.users c.changes.length) (L (.abv (max (c.find a) (c.find b))))) c.changes.length (.loose (min (c.find a) (c.find b)) (c.ab (min (c.find a) (c.find b))).length (max (c.find a) (c.find b)))=
    .tup [.str "edge",.int (min (c.find a) (c.find b):Nat),.int (c.ab (min (c.find a) (c.find b))).length,.int (max (c.find a) (c.find b):Nat),.ref (L (.abv (max (c.find a) (c.find b))))]:=by
   show AV.tup [_,_,_,_,.ref (L.put _ _ _)]=_;rw[Fn]
  rw[←a2];refine P2.log (ch:=.loose (min (c.find a) (c.find b)) (c.ab (min (c.find a) (c.find b))).length (max (c.find a) (c.find b))) (by simp) (Ψ:=fun σ'=>Cs _ _ _ _ _ σ' _) fun a9 P3 F3=>?_;have hp:L.put (.users c.changes.length) (L (.abv (max (c.find a) (c.find b)))) .hp=L .hp:=Bd _ _ (!(by intro e;injection e));refine Cs.cons (Zeg (V4 B (UV w) (qM w) (mX w) () () () () () () () () (hp▸P3.iH)
   (AC.cons (AG () (BX (AG () (AG () ?_))))) () ()))
  rw[←hp];refine zA (chs:=c.changes) (many:=(c.ab (min (c.find a) (c.find b))).length) B (R.up rfl) P3 ⟨S.U,⟨S.O.len,S.O.sz,S.O.m⟩,S.abo,S.z3,S.z4,S.z5,S.z6⟩ ha n rfl ?_ fun L' σ' P' F'=>?_
  ·rw[Fn];exact(Bd _ _ (!(by intro e;injection e))).symm
  ·exact q L' σ' P' (F1.trans (F2.trans (F3.trans F')))
def KF(fd:Ai):List DC:=match fd.body with
 |.stmts b=>b
 |_=>[]
abbrev Xe(fd:Ai)(n:Nat):List DC:=(KF fd).drop n
abbrev ZR(fd:Ai)(L f:AB):Code:=.func (KF fd) (BA fd L f)
theorem D0.j(S:D0 c):ND c:=⟨S.U,⟨S.O.len,S.O.sz,S.O.m⟩,S.abo,S.z3,S.z4,S.z5,S.z6⟩
theorem Zbn(B:Aj)(R:Ah A 6)(P:AS σ L c)(S:ND c)(z2:c.changes.length≤900)(z1:c.known.length≤900)(zn:c.nodes.length≤1000){n:Nat}{nd:Nd}(e:c.nodes[n]? =some nd)(hn:n<c.uab.length)(hk:∀k∈nd.2,k<c.uab.length)(hl:nd.2.length≤1000)
  (a4:∀m,AH c.known (c.canon n)=some m→m<c.uab.length){Φ:AV→AA→Prop}
  (q:∀L' σ',AS σ' L' (c.look n)→Fm σ c L σ' (c.look n) L'→Φ .none σ'):EA A (.ref 303) [.ref (L .hp),.int n] σ Φ:=by
 refine EA.def (F:=(RV w).2) (names:=["self","n"]) B R rfl (fun Lf=>?_) (DG fun zz zz=>rfl) rfl ∅
 ·refine AJ (BR (Na (l:=L .known) T9 j1 (BM B () P.iH (Ss w) Q4 ⟨rfl,.inr (.inr ⟨_,P.at_ .known _ rfl⟩),?_⟩)));refine BX (Bu B () P.iH () (dR w) (SX w).2 (Ab (AG () (Ze B (R.up rfl) P S.U e zn hk hl fun a3 x1=>AG () ?_))));have P1:=P.ext x1;have ek:=P1.at_ .known _ rfl
  -- behind the table: c2, o
  have tail:∀(c2:HS)(o:Nat)(a0:AA),AS a0 L c2→Fm σ c L a0 c2 L→c2.uab=c.uab→ND c2→c2.changes.length≤900→o<c.uab.length→c.look n=(if c.find o≠c.find n then c2.join o n HS.likeR else c2)→
    EX (A.deeper (BA (RV w).1 Lf 303)) (BA (RV w).1 Lf 303) (Xe (RV w).1 1) (put (B8 ["self","n"] [.ref (L .hp),.int n]) "other" (.int (o:Nat))) a0 (backs Φ):=by
   intro c2 o a0 P2 F2 eu S2 zc ho a1;have U2:Bz c2.uab:=by rw[eu];exact S.U
   have fe:∀a,c2.find a=c.find a:=fun a=>by show root c2.uab a=root c.uab a;rw[eu]
   refine AJ (CP (Bj (Bu B () P2.iH () (HD w) (Rj w).2 (Ab (AG () (HC B (R.up rfl) P2 U2 (by rw[eu];exact ho)
    (Bu B () P2.iH () (HD w) (Rj w).2 (Ab (AG () (HC B (R.up rfl) P2 U2 (by rw[eu];exact hn) (NO (BO ?_))))))))))))
   rw[fe,fe];by_cases h:c.find o=c.find n
   ·have:(not (decide (((c.find o:Nat):Int)=(c.find n:Nat))))=false:=by simp[h]
    refine Ba this ?_;rw[a1,if_neg (by simpa using h)]at q;exact Ax (Ax (q _ _ P2 F2))
   ·have:(not (decide (((c.find o:Nat):Int)=(c.find n:Nat))))=true:=by simp;exact Al Qn h
    refine CQ this ?_;rw[a1,if_pos h]at q;refine AJ (Bg (Bu B () P2.iH () (ZI w) (WB w).2 (AC.cons (AG () (BX (AG () (Bw (Ab (DJ ⟨!Cz _,?_⟩)))))))));refine au B (R.deeper _) P2 S2 zc (by rw[eu];exact ho) (by rw[eu];exact hn) fun L' σ' P' F'=>?_;exact Ax (Ax (q _ _ P' (F2.trans F')))
  have a2:=TE (c:=c) (c.canon n);refine iX (R.deeper _ |>.mono (!ld rfl):Ah _ 1).u1 ek P1.n1.2.1 (by rw[AU];exact ln z1 rfl) (fun y hy=>?_) (fun hy=>?_)
  ·rw[a2]at hy;cases hq:AH c.known (c.canon n)with
   |none=>rw[hq]at hy;cases hy
   |some m=>
    rw[hq]at hy;cases hy;refine A2 (tail c m a3 P1 x1.fm rfl S z2 (a4 m hq) ?_);unfold HS.look;rw[hq];exact rfl
  ·rw[a2]at hy;have hq:AH c.known (c.canon n)=none:=by
    cases hq:AH c.known (c.canon n)with
    |none=>rfl
    |some m=>rw[hq]at hy;cases hy
   have pk:Av (c.known.map fun p=>(p.1.key,AV.int (p.2:Nat))) (c.canon n).key (.int (n:Nat))=(c.known++[(c.canon n,n)]).map fun p=>(p.1.key,AV.int (p.2:Nat)):=by
    unfold Av;rw[a2,hq];simp
   rw[pk];refine ig P1 .known (c':={c with known:=c.known++[(c.canon n,n)]}) (!rfl) fun a0 P2 F2 zz=>?_;refine A2 (tail {c with known:=c.known++[(c.canon n,n)]} n a0 P2 (x1.fm.trans F2) rfl ⟨S.U,⟨S.O.len,S.O.sz,S.O.m⟩,S.abo,S.z3,S.z4,S.z5,S.z6⟩ z2 hn ?_);unfold HS.look;rw[hq];exact rfl
theorem ik{t:Sem Il}{Φ:CL→AW→AA→Prop}(P:AS σ L c){ch:Ch}(n:∀k m g us,ch≠.edge k m g us)(q:∀σ',AS σ' L (Gk c ch)→Fm σ c L σ' (Gk c ch) L→I8 A env t ρ σ' Φ):
  I8 A env t ρ (upd σ (L .changes) (.list (Oi c L++[FP L c.changes.length ch]))) Φ:=P.log' n q
def pk(y:Str):List (Str×AV)→Option AV
 |[]=>none
 |p::l=>if y=p.1 then some p.2 else pk y l
theorem WR{y k:Str}{v v':AV}{l2:List (Str×AV)}:∀{l1:List (Str×AV)},k∉l1.map (·.1)→(if y=k then some v else pk y (l1++(k,v')::l2))=pk y (l1++(k,v)::l2):=fun{l1}=>by
 induction l1 with
 |nil=>
  intro zz;show ite (y=k) _ (ite (y=k) _ _)=ite (y=k) _ _;by_cases e:y=k
  ·rw[if_pos e,if_pos e]
  ·rw[if_neg e,if_neg e,if_neg e]
 |cons p l n=>
  intro h;have n:=n fun m=>h (.tail _ m);show ite (y=k) _ (ite (y=p.1) _ (pk y (l++(k,v')::l2)))=ite (y=p.1) _ (pk y (l++(k,v)::l2));by_cases e:y=p.1
  ·rw[if_pos e,if_pos e];exact if_neg (c:=y=k) fun q=>h (by rw[←q,e];exact Dq)
  ·rw[if_neg e,if_neg e];exact n
theorem u6{y:Str}:∀{l:List (Str×AV)},y∉l.map (·.1)→pk y l=none:=fun{l}=>by
 induction l with
 |nil=>intro zz;rfl
 |cons p l n=>intro h;exact(if_neg (c:=y=p.1) fun e=>h (by rw[e];exact Dq)).trans (n fun m=>h (.tail _ m))
theorem Zcj{y:Str}{k:List (Str×AV)}:∀{l:List (Str×AV)},y∉l.map (·.1)→pk y (l++k)=pk y k:=fun{l}=>by
 induction l with
 |nil=>intro zz;rfl
 |cons p l n=>intro h;exact(if_neg (c:=y=p.1) fun e=>h (by rw[e];exact Dq)).trans (n fun m=>h (.tail _ m))
theorem pc{y:Str}{k:List (Str×AV)}:∀{l:List (Str×AV)},y∉k.map (·.1)→pk y (l++k)=pk y l:=fun{l} h=>by
 induction l with
 |nil=>exact u6 h
 |cons p l m=>show ite _ _ _=ite _ _ _;rw[m]
theorem V8{y:Str}:∀{l:List (Str×AV)},(l.map (·.1)).Nodup→pk y l=pk y l.reverse:=fun{l}=>by
 induction l with
 |nil=>intro zz;rfl
 |cons p l n=>
  intro h;have h:=FU.mp h;rw[YN];by_cases e:y=p.1
  ·refine(if_pos e).trans (Eq.trans ?_ (Zcj fun m=>?_).symm)
   ·exact(if_pos e).symm
   ·rw[List.map_reverse,List.mem_reverse]at m;exact h.1 (show p.1∈_ from e▸m)
  ·refine((if_neg e).trans (n h.2)).trans (pc fun m=>?_).symm;cases m with
   |head=>exact e rfl
   |tail _ m=>exact nomatch m
def hP(c:HS)(L:AZ):List (Str×AV):=[("bank",.ref (L .bk)),("unions",.ref (L .un)),("edges",.ref (L .edges)),("forest",.ref (L .forest)),("known",.ref (L .known)),("above",.ref (L .above)),("waiting",.ref (L .waiting)),("backs",.int c.backs),("changes",.ref (L .changes)),("marks",.ref (L .marks)),("made",.int c.made)]
def hN:List Str:=["bank","unions","edges","forest","known","above","waiting","backs","changes","marks","made"]
theorem Zj{m:Nat}:(fun y=>if y=("made":Str)then some (AV.int ((m:Nat):Int))else DW c L y)=DW {c with made:=m} L:=funext fun y=>WR (y:=y) (l1:=(hP c L).take 10) (l2:=[]) (v':=.int c.made) (show("made":Str)∉hN.take 10 by decide+kernel)
def XC(σ:AA)(A:AX)(c:HS)(L:AZ)(n:Nat)(Φ:AV→AA→Prop):Prop:=∀(B:Aj)(R:Ah A 7)(P:AS σ L c)(S:D0 c)(m:n<c.nodes.length)(q:∀L' σ',AS σ' L' (c.lookAt n)→Fm σ c L σ' (c.lookAt n) L'→Φ .none σ'),AF A (.ref 437) [.ref (L .hp),.int n] σ Φ
def c7:((AA×AX)×HS)×((AZ×Nat)×(AV→AA→Prop))→Prop:=fun t=>XC t.1.1.1 t.1.1.2 t.1.2 t.2.1.1 t.2.1.2 t.2.2
def M9:=zE c7 ((((fun _=>none),{}),De),(((fun _=>0),0),(fun _ _=>True)))
def S9:=M9.1.1.1
def Vr:=M9.1.1.2
def C8:=M9.1.2
def JU:=M9.2.1.1
def DO:=M9.2.1.2
def UU:=M9.2.2
theorem lY:XC S9 Vr C8 JU DO UU:=fun B R P S hn q=>by
 have z1:=S.z1;have z2:=S.z2;obtain⟨nd,e⟩:∃nd,C8.nodes[DO]? =some nd:=⟨_,Dy hn⟩;refine AL (S.kids DO nd e) fun kl hk=>?_;have a8:=S.nl;have a4:=S.B.n;refine .of (Xz (F:=(GF w).2) (names:=["self","n"]) B R rfl (fun Lf=>?_) (DG fun zz zz=>rfl) rfl ∅)
 ·have tail:∀(c1:HS)(a2:AA),AS a2 JU c1→Fm S9 C8 JU a2 c1 JU→c1=(if DO=C8.made then{C8 with changes:=C8.changes++[.made DO],made:=DO+1}else C8)→
    Cs (Vr.deeper (BA (GF w).1 Lf 437)) (ZR (GF w).1 Lf 437) (BA (GF w).1 Lf 437) (Fp (Xe (GF w).1 1) (BA (GF w).1 Lf 437)) (B8 ["self","n"] [.ref (JU .hp),.int DO]) a2 (backs UU):=by
   intro c1 a2 P1 F1 a0;have eu:c1.uab=C8.uab:=by rw[a0];split<;>rfl
   have en:c1.nodes=C8.nodes:=by rw[a0];split<;>rfl
   have a3:c1.known=C8.known:=by rw[a0];split<;>rfl
   have a7:c1.canon DO=C8.canon DO:=by rw[X0 (c:=c1) (by rw[en];exact e),X0 e];show(nd.1,nd.2.map (root c1.uab))=(nd.1,nd.2.map (root C8.uab));rw[eu]
   have b0:c1.changes.length≤801:=by rw[a0];by_cases hm:DO=C8.made<;>simp[hm]<;>(first|exact A6 wV z2|exact A6 Zcf z2)
   have SJ:∀chs,ND {c1 with changes:=chs}:=fun chs=>by
    rw[a0];split<;>exact⟨S.U,⟨S.O.len,S.O.sz,S.O.m⟩,S.abo,S.z3,S.z4,S.z5,S.z6⟩
   refine Cs.cons (.of (BR (Bu B () P1.iH () (dR w) (SX w).2 (Ab (AG () (Ze B (R.up rfl) P1 (by rw[eu];exact S.U) (by rw[en];exact e) (by rw[en];exact a4) (by rw[eu];exact hk) (!ln kl rfl) fun a9 x2=>A2 ?_))))));have P2:=P1.ext x2;have ek:=P2.at_ .known _ rfl;refine Cs.cons (.of (CP (Bj (AG Ar (BM B () P2.iH (Ss w) Q4 (Zcx (R.deeper _ |>.mono (!ld rfl):Ah _ 1).u1 ek P2.n1.2.1 (BO ?_)))))));have b3:=TE (c:=c1) (c1.canon DO);rw[b3,a7,a3];have a6:∀(c2:HS)(a1:AA),AS a1 JU c2→Fm S9 C8 JU a1 c2 JU→c2=C8.note DO→
     Cs (Vr.deeper (BA (GF w).1 Lf 437)) (ZR (GF w).1 Lf 437) (BA (GF w).1 Lf 437) (Fp (Xe (GF w).1 3) (BA (GF w).1 Lf 437)) (put (B8 ["self","n"] [.ref (JU .hp),.int DO]) "node" (B1 (C8.canon DO).key)) a1 (backs UU):=by
    intro c2 a1 P3 F3 a5;have e2:∃chs md,c2={C8 with changes:=chs,made:=md}∧chs.length≤900:=by
     rw[a5];unfold HS.note;split<;>split
     ·exact⟨_,_,rfl,by simp;exact ln z2 rfl⟩
     ·exact⟨_,_,rfl,by simp;exact ln z2 rfl⟩
     ·exact⟨_,_,rfl,!ln z2 rfl⟩
     ·exact⟨_,_,rfl,by simp;exact ln z2 rfl⟩
    refine Cr e2 fun chs md e2 b1=>?_;refine Cs.cons (iG (V4 B (GF w).2 (qx w) (kH w) () () () () () () () () P3.iH
     (Ab (AG () ?_)) () ()))
    refine Zbn (nd:=nd) B (R.deeper _) P3 (by rw[e2];exact⟨S.U,⟨S.O.len,S.O.sz,S.O.m⟩,S.abo,S.z3,S.z4,S.z5,S.z6⟩) (by rw[e2];exact b1) (by rw[e2];show C8.known.length≤_;exact ln z1 rfl) (by rw[e2];exact a4) (by rw[e2];exact e) (by rw[e2];show DO<C8.uab.length;exact AK hn (Ac a8)) (by rw[e2];exact hk) (!ln kl rfl) (fun m hm=>by rw[e2]at hm ⊢;exact S.kn _ m hm) fun L' σ' P' F'=>?_;subst a5;exact Cs.of (Ax (q L' σ' P' (F3.trans F')))
   cases hq:AH C8.known (C8.canon DO)with
   |some m=>
    refine Ba (show(not (((some m).map fun i=>AV.int (i:Nat)).isSome))=false from rfl) ?_;refine Ax (a6 c1 a9 P2 (F1.trans x2.fm) ?_);rw[a0];unfold HS.note;rw[hq];rfl
   |none=>
    refine CQ (show(not (((none:Option Nat).map fun i=>AV.int (i:Nat)).isSome))=true from rfl) ?_;have e1:=P2.at_ .changes _ rfl;refine AJ (Bg (Cd Fu Fv (BM B () P2.iH (Jd w) Iz ⟨rfl,e1,Ab (Bw (BX (DJ (AG Ar ⟨by simp,FC e1 (by rw[AU,Et];exact ln b0 rfl) ?_⟩))))⟩)));refine ik P2 (ch:=.known (C8.canon DO)) (by simp) fun a1 P3 F3=>?_;refine Ax (a6 _ a1 P3 (F1.trans (x2.fm.trans F3)) ?_);rw[a0];unfold HS.note;rw[hq];simp
  refine Cs.cons (.of (CP (Bj (AG () (BM B () P.iH (sk w) U1 (HP (BO ?_)))))));by_cases h:DO=C8.made
  ·refine CQ (decide_eq_true (!Al Zl h)) ?_;have e1:=P.at_ .changes _ rfl;refine AJ (Bg (Cd Fu Fv (BM B () P.iH (Jd w) Iz ⟨rfl,e1,Ab (Bw (BX (DJ (AG () ⟨by simp,FC e1 (by rw[AU,Et];exact ln z2 rfl) ?_⟩))))⟩)));refine ik P (ch:=.made DO) (by simp) fun a1 P3 F3=>?_;refine AJ (BR (CH (AG () (BB (Jj ?_)))));rw[show((DO:Nat):Int)+1=((DO+1:Nat):Int) by simp];refine QA B (AG () ?_);refine⟨_,_,_,_,_,11,rfl,P3.iH,U0 w,.inr ⟨rfl,by rw[U1];simp⟩,!ld rfl,?_⟩;rw[Zj (c:=Gk C8 (.made DO)) (m:=DO+1)];refine C4 P3 .hdx (c':={C8 with changes:=C8.changes++[.made DO],made:=DO+1}) (hs:=by intro t ht y hy;cases t<;>first|exact absurd rfl ht|exact hy) rfl fun b2 P4 F4 zz=>?_
   refine Ax (tail _ b2 P4 (F3.trans F4) ?_);rw[if_pos h]
  ·refine Ba (decide_eq_false (!Al Qn h)) ?_;refine Ax (tail C8 S9 P (.refl _ _ _) ?_);rw[if_neg h]
theorem cH{σ A c L n Φ}:XC σ A c L n Φ:=@zF _ c7 _ @lY (((σ,A),c),((L,n),Φ))
abbrev Ec(c:HS)(m:List Nat):HS:={c with waiting:=m}
theorem D0.wait(S:D0 c)(h:ws.length≤500):D0 (Ec c ws):=⟨S.U,⟨S.O.len,S.O.sz,S.O.m⟩,⟨S.B.n,S.B.w,S.B.d,S.B.m⟩,S.nl,S.kids,S.abo,S.kn,S.z1,S.z2,S.z3,S.z4,h,S.z6⟩
structure Oo(I:HS→Prop)(μ:HS→Nat):Prop where
 sane:∀c,I c→D0 c
 step:∀c ws n,I c→c.waiting=ws++[n]→n<c.nodes.length∧I ((Ec c ws).lookAt n)∧μ ((Ec c ws).lookAt n)<μ c
theorem Rc(B:Aj)(R:Ah A 8)(Go:Oo I μ)(P:AS σ L c)(hI:I c)
  (q:∀c' L' σ',I c'→c'.waiting=[]→AS σ' L' c'→Fm σ c L σ' c' L'→Φ .none σ'):AF A (.ref 338) [.ref (L .hp)] σ Φ:=by
 refine AF.def (F:=(Ot w)) (names:=["self"]) B R rfl (fun Lf=>?_) (FL fun zz=>rfl) rfl ∅
 ·refine AJ (Ll (fun m ρ' σ'=>∃c' L',m=μ c'∧I c'∧ρ' "self"=some (.ref (L' .hp))∧AS σ' L' c'∧Fm σ c L σ' c' L') (μ c) ⟨c,L,rfl,hI,by rfl,P,.refl _ _ _⟩ ?_);rintro m ρ' σ' ⟨c',L',rfl,a0,r1,P',F'⟩;have S:=Go.sane c' a0;have z5:=S.z5;have e1:=P'.at_ .waiting _ rfl;refine Bj (Bo B (Cb w) Ca (Ab (BM B r1 P'.iH (OQ w) MO (Cj e1 (by rw[AU];exact ln z5 rfl) (BB (KW (BO ?_)))))));rw[AU];rcases UP c'.waiting with hw|⟨ws,n,hw⟩
  ·rw[hw];refine Ba (show decide (((([]:List Nat).length:Nat):Int)>0)=false from rfl) ?_;exact Ax (q c' L' σ' a0 hw P' F')
  ·rw[UQ]at hw;have hd:decide (((c'.waiting.length:Nat):Int)>0)=true:=by rw[hw];simp
   refine CQ hd ?_;refine BN (Go.step c' ws n a0 hw) fun hn a2 a3=>?_;have a1:σ' (L' .waiting)=some (.list (nats ws++[.int n])):=by rw[e1,hw];simp
   refine AJ (Bg (Bu B r1 P'.iH () (aw w) (eV w) (Ab (Cd FW Fw (BM B r1 P'.iH (OQ w) MO ⟨rfl,a1,AC.nil (FS a1 (by simp;rw[hw]at z5;simp at z5;exact ln z5 rfl) ?_)⟩)))));refine iY P' .waiting (c':=Ec c' ws) (!rfl) fun a4 P1 F1 zz=>?_;refine cH B (R.deeper _) P1 (S.wait (by rw[hw]at z5;simp at z5;exact ln z5 rfl)) hn fun L2 a5 P2 F2=>?_;exact Ax ⟨_,a3,_,L2,rfl,a2,by rw[F2.root];exact r1,P2,F'.trans (F1.trans F2)⟩
theorem gd(B:Aj)(R:Ah A 6)(P:AS σ L c)(S:D0 c){a b:Nat}(ha:a<c.uab.length)(m:b<c.uab.length){r:AV}{Φ:AV→AA→Prop}
  (q:∀L' σ' v,AS σ' L' (c.join a b r)→Fm σ c L σ' (c.join a b r) L'→Φ v σ'):AF A (.ref 324) [.ref (L .hp),.int a,.int b,r] σ Φ:=by
 have z2:=S.z2;refine AF.def (F:=(Vd w)) (names:=["self","a","b","reason"]) B R rfl (fun Lf=>?_) (Ku fun n n n n=>rfl) rfl ∅
 ·exact AJ (CD (Bu B () P.iH () (ZI w) (UV w) (AC.cons (AG () (BX (AG () (AG () (au B (R.deeper _) P S.j (!ln z2 rfl) ha m fun L' σ' P' F'=>q L' σ' _ P' F'))))))))
theorem bw(B:Aj)(R:Ah A 1)(P:AS σ L c)(hm:c.marks.length≤1000)(q:Φ (.int (c.marks.length:Nat)) σ):AF A (.ref 415) [.ref (L .hp)] σ Φ:=by
 refine AF.def (F:=(V0 w)) (names:=["self"]) B R rfl (fun Lf=>?_) (FL fun m=>rfl) rfl ∅
 ·refine AJ (CD (Bo B (Cb w) Ca (Ab (BM B () P.iH (Qj w) Rf (Cj (P.at_ .marks _ rfl) (by rw[AU,Et];exact ln hm rfl) ?_)))));rw[AU,Et];exact q
abbrev Eg(n:Nat)(ab:List (Nat×List Nat))(c:Nat):List (Nat×List Nat):=Av ab c ((AH ab c).getD []++[n])
def Fd(c:HS)(nd:Nd)(w d:Int):HS:=
 {KM (Ks c nd w d)with abo:=(ss (nd.2.map (KM (Ks c nd w d)).find)).foldl (Eg c.uab.length) (c.abo++[(c.uab.length,[])])}
theorem aQ{K V W:Type}[DecidableEq K](F:K→W){xs:List (K×V)}{k:K}{v y:V}(e:AH xs k=some y):(Av xs k v).map (fun p=>(p.1,F p.1))=xs.map fun p=>(p.1,F p.1):=by
 unfold Av;rw[e];simp only[Qd,if_true,Bx];refine Dz fun p m=>?_;simp only[N9];split<;>rfl
theorem Vn:AH (Eg n ab k) j=if j=k then some ((AH ab k).getD []++[n])else AH ab j:=Dt
theorem kR{n:Nat}:∀{ks:List Nat}{ab:List (Nat×List Nat)}{j:Nat}{l:List Nat},AH ab j=some l→∃m,AH (ks.foldl (Eg n) ab) j=some m∧m.length≤l.length+ks.length:=by
 intro ks
 induction ks with
 |nil=>
  intro ab j l e;exact⟨l,e,!A9 _⟩
 |cons k ks a0=>
  intro ab j l e;rw[MI];by_cases h:j=k
  ·subst h;refine AI (a0 (ab:=Eg n ab j) (j:=j) (l:=l++[n]) (by rw[Vn,if_pos rfl,e];rfl)) fun m e' hl=>?_;exact⟨m,e',by simp at hl ⊢;exact BS iC hl⟩
  ·refine AI (a0 (ab:=Eg n ab k) (j:=j) (l:=l) (by rw[Vn,if_neg h,e])) fun m e' hl=>?_;exact⟨m,e',by simp;exact BS rz hl⟩
theorem Bz.snoc(U:Bz ab)(h:ab.length≤900):Bz (ab++[ab.length]):=by
 refine⟨fun i x e=>?_,by simp;exact ln h rfl⟩;by_cases m:i<ab.length
 ·rw[Es m]at e;exact U.le i x e
 ·have:=(BY.mp e).1;simp at this;have:i=ab.length:=by exact Al gj m this
  subst this;simp at e;exact Ac e.symm
theorem Fm.out(F:Fm σ c L σ' c' L')(h:σ a=some x)(n:¬A8 c L a):σ' a=some x∧¬A8 c' L' a:=
 ⟨by rw[F.keep a (by rw[h];exact Ag _) n];exact h,fun f=>(F.foot a f).elim n fun e=>!Bh ((h.symm.trans e))⟩
theorem mU(B:Aj)(R:Ah A 3)(P:AS σ L c)(U:Bz c.uab)(e:AH c.nums nd=some i)(hi:i<c.uab.length)(n:nd.2.length≤1000)(q:Φ (.int i) σ):
  AF A (.ref 291) [.ref (L .hp),.str nd.1,.tup (nats nd.2)] σ Φ:=by
 refine GU (F:=(Ri w)) (names:=["self","op","numbers"]) B R rfl (fun Lf=>?_) (KI fun m m m=>rfl) rfl ∅
 ·refine AJ (BR (C5 B () P.iH (LR w) LD P.iB () (aZ w) (S5 w) (BX (AG () (AG () (v6 B (R.deeper _) P e n (A2 ?_)))))));refine AJ (CP (Bj (AG Ar (C5 B () P.iH (JT w) JE P.iU () (cz w) (Wd w) (AC.nil (iA B (R.up rfl) P U (NL (BO ?_))))))));refine CQ (decide_eq_true (!Al XX hi)) ?_;exact AJ (CD (AG Ar q))
set_option tactic.hygienic true in
def Vu(σ:AA)(A:AX)(c:HS)(L:AZ)(nd:Nd)(Φ:AV→AA→Prop):Prop:=∀(B:Aj)(R:Ah A 9)(P:AS σ L c)(S:D0 c)(e:AH c.nums nd=none)(hn:nd.2.length≤2)(ho:Cx nd.1)(hk:∀k∈nd.2,k<c.nodes.length)(hz:c.nodes.length≤900)(n:∀k,AH c.abo k≠none→k<c.uab.length)(hS:∀w d,D0 (Fd c nd w d))(q:∀m d L' σ',AS σ' L' ((Fd c nd m d).lookAt c.nodes.length)→Fm σ c L σ' ((Fd c nd m d).lookAt c.nodes.length) L'→Φ (.int (c.nodes.length:Nat)) σ'),AF A (.ref 291) [.ref (L .hp),.str nd.1,.tup (nats nd.2)] σ Φ
def gP:((AA×AX)×HS)×((AZ×Nd)×(AV→AA→Prop))→Prop:=fun t=>Vu t.1.1.1 t.1.1.2 t.1.2 t.2.1.1 t.2.1.2 t.2.2
def NG:=zE gP ((((fun _=>none),{}),De),(((fun _=>0),BV),(fun _ _=>True)))
def Zo:=NG.1.1.1
def zW:=NG.1.1.2
def Bc:=NG.1.2
def SO:=NG.2.1.1
def Dv:=NG.2.1.2
def xZ:=NG.2.2
set_option tactic.hygienic true in
theorem oX:Vu Zo zW Bc SO Dv xZ:=fun B R P S e hn ho hk hz d2 hS q=>by
 have a0:=S.nl;have z6:=S.z6;refine GU (F:=(Ri w)) (names:=["self","op","numbers"]) B R rfl (fun Lf=>?_) (KI fun _ _ _=>rfl) rfl ∅
 ·refine AJ (BR (C5 B () P.iH (LR w) LD P.iB () (aZ w) (S5 w) (BX (AG () (AG () (Zbl B (R.deeper _) P S.B e (!ln hn rfl) ho hk fun w' d d6 P1 F1=>A2 ?_))))));refine AJ (CP (Bj (AG Ar (C5 B () P1.iH (JT w) JE P1.iU () (cz w) (Wd w) (AC.nil (iA B (R.up rfl) P1 S.U (NL (BO ?_))))))));refine Ba (decide_eq_false (by show ¬((Bc.nodes.length:Int)<(Bc.uab.length:Nat));exact Al Zc4 a0)) ?_;refine Ax (AJ (Bg (C5 B () P1.iH (JT w) JE P1.iU () (lq w) (aY w) (AC.nil (wS B (R.up rfl) P1 S.U S.O.len fun L2 c3 P2 F2=>?_)))));have a6:L2 .hp=SO .hp:=F2.root;have a5:∀(x:Str)(v:AV),x≠"self"→put (B8 ["self","op","numbers"] [.ref (SO .hp),.str Dv.1,.tup (nats Dv.2)]) x v "self"=some (.ref (L2 .hp)):=fun x v hx=>by rw[AP (Ne.symm hx),a6];rfl
  -- self.above[n] = []
  refine AJ (BR (Da (AC.nil ⟨!Be _,fun D nD nb=>?_⟩)));refine Pv P2 nD fun e2 hD P3 F3 nf ks=>?_;have e8:=P3.at_ .above _ rfl;refine KZ (BM B (a5 _ _ ⋯) P3.iH (GH w) GK (AG Ar (DK.set (Fh w) e8 (by rw[AU];show Bc.abo.length≤_;exact ln z6 rfl) ?_)));have m:AH Bc.abo Bc.uab.length=none:=by
   cases hq:AH Bc.abo Bc.uab.length with
   |none=>rfl
   |some l=>have:=d2 Bc.uab.length (by rw[hq];exact Ag _);exact absurd this (EP _)
  have c5:Av (Bc.abo.map fun p=>((p.1:Int),AV.ref (L2 (.abv p.1)))) ((Bc.nodes.length:Nat):Int) (.ref D)=(Bc.abo++[(Bc.uab.length,([]:List Nat))]).map fun p=>((p.1:Int),AV.ref (L2.put (.abv Bc.uab.length) D (.abv p.1))):=by
   rw[a0];unfold Av;rw[R3 (fun i=>AV.ref (L2 (.abv i))),m];simp only[Option.map_none,Yy,HU,if_false];rw[Cw];congr 1
   ·refine Dz fun p hp=>?_;have:p.1≠Bc.uab.length:=fun e=>by
     have:AH Bc.abo p.1≠none:=by
      unfold AH;simp only[ne_eq,Zfv,Yw];intro h;exact absurd (by simp) (h p hp)
     rw[e,m]at this;exact this rfl
    rw[Bd _ _ (by simpa using this)]
   ·simp
  refine TP P3 (.abv Bc.uab.length) .above (τ:=c3) (c':={KM (Ks Bc Dv w' d)with abo:=Bc.abo++[(Bc.uab.length,[])]}) (x:=.list []) hD nD F3 nf rfl ?_ ?_ (fun t t0 t1 z hz=>?_) fun a2 P4 F4=>?_
  ·show((AH (Bc.abo++[(Bc.uab.length,[])]) Bc.uab.length).map _)=_;rw[Hw,m,if_pos rfl];rfl
  ·show some (AO.dictI _)=some (AO.dictI _);exact congrArg (fun x=>some (AO.dictI x)) c5.symm
  ·cases t<;>first|exact hz|exact absurd rfl t1|skip
   rename_i i;change((AH (Bc.abo++[(Bc.uab.length,[])]) i).map _)=_ at hz;rw[Hw,if_neg (fun e=>t0 (by rw[e])),Yx]at hz;exact hz
  have U4:Bz (Bc.uab++[Bc.uab.length]):=S.U.snoc (!AK (Ac a0.symm) hz);have b6:L2.put (.abv Bc.uab.length) D .hp=L2 .hp:=Bd _ _ (!(by intro e;injection e));generalize e1:L2.put (.abv Bc.uab.length) D=L4 at*;generalize a8:({KM (Ks Bc Dv w' d)with abo:=Bc.abo++[(Bc.uab.length,[])]}:HS)=c4 at*;have u4:c4.uab=Bc.uab++[Bc.uab.length]:=by rw[←a8]
  have a4:c4.abo=Bc.abo++[(Bc.uab.length,[])]:=by rw[←a8]
  have b7:∀k∈Dv.2,k<c4.uab.length:=fun k a3=>by rw[u4];have:=hk k a3;rw[BJ,DD];exact Ga (AK this (Ac a0))
  refine AJ (Gs R.handled (FA (TT B R.handled (TO B (x:="kid") (ks:=Dv.2) (R.up rfl) (AG () ⟨rfl,P4,by rw[u4];exact U4,b7,!ln hn rfl,fun D5 b0 d5=>?_⟩)
   (by show some _=_;rw[b6,a6]) ⋯ () (fun _=>by rfl) (fun _=>by rfl) (fun _=>by rfl) ⋯))))
  have P5:=P4.ext (.new (x:=.list (nats (Dv.2.map c4.find))) b0);refine⟨_,_,rfl,Am _ _ _,by rw[AU];exact ln (CG hn) rfl,fun E nE e3=>?_⟩;have P6:=P5.ext (.new (x:=.list (nats (Internal.ss (Dv.2.map c4.find)))) nE);have d3:=P5.out nE;have X6:An a2 (upd (upd a2 D5 (.list (nats (Dv.2.map c4.find)))) E (.list (nats (Internal.ss (Dv.2.map c4.find))))):=(An.new b0).trans (.new nE);have c2:=(F1.trans (F2.trans F4)).trans (X6.fm (c:=c4) (L:=L4));have hE:=Am (upd a2 D5 (.list (nats (Dv.2.map c4.find)))) E (.list (nats (Internal.ss (Dv.2.map c4.find))));generalize upd (upd a2 D5 (.list (nats (Dv.2.map c4.find)))) E (.list (nats (Internal.ss (Dv.2.map c4.find))))=σ6 at*;have b5:∀k∈Internal.ss (Dv.2.map c4.find),∃l,AH c4.abo k=some l∧l.length≤40:=fun k a3=>by
   refine AI (BD.mp (Mb.mp a3)) fun j hj b2=>?_;subst b2;have c8:=b7 j hj;have ht:c4.uab[c4.find j]? =some (c4.find j):=gH (by rw[u4];exact U4) c8;have d4:c4.find j≤j:=Jy _ _;have c6:=hk j hj;rw[u4,Es (!AK (AK (CG d4) c6) (Ac a0))]at ht;refine AI (S.abo _ ht) fun l hl a1=>?_;exact⟨l,by rw[a4,Hw,hl];rfl,a1⟩
  have b3:(Internal.ss (Dv.2.map c4.find)).length≤2:=by have:=XD (xs:=Dv.2.map c4.find);rw[AU]at this;exact AK this hn
  have c1:Fd Bc Dv w' d={c4 with abo:=(Internal.ss (Dv.2.map c4.find)).foldl (Eg Bc.uab.length) c4.abo}:=by rw[←a8];rfl
  generalize Internal.ss (Dv.2.map c4.find)=kk at*;refine⟨E,_,rfl,hE,trivial,trivial,kk.length,fun i ρ' σ'=>i≤kk.length∧ρ' "self"=some (.ref (L4 .hp))∧ρ' "n"=some (.int Bc.nodes.length)∧AS σ' L4 {c4 with abo:=(kk.take i).foldl (Eg Bc.uab.length) c4.abo}∧Fm Zo Bc SO σ' {c4 with abo:=(kk.take i).foldl (Eg Bc.uab.length) c4.abo} L4∧σ' E=some (.list (nats kk))∧¬A8 {c4 with abo:=(kk.take i).foldl (Eg Bc.uab.length) c4.abo} L4 E,
   ⟨!Be _,by show some _=_;rw[b6,a6],by rfl,P6,c2,hE,d3⟩,?_⟩
  rintro i ρ' σ' ⟨hi,r1,r2,P',F',b1,c9⟩;refine⟨hi,_,⟨_,b1,rfl⟩,?_⟩;rw[CK];cases hq:kk[i]? with
  |some k=>
   have a7:=(BY.mp hq).1;refine AI (b5 k (DE hq)) fun l0 d1 b4=>?_;refine AI (kR (n:=Bc.uab.length) (ks:=kk.take i) d1) fun l hl a1=>?_;have a1:l.length≤42:=by rw[N8]at a1;exact kJ b3 b4 a1
   have et:kk.take (i+1)=kk.take i++[k]:=by rw[G4,hq];rfl
   have ef:(kk.take (i+1)).foldl (Eg Bc.uab.length) c4.abo=Av ((kk.take i).foldl (Eg Bc.uab.length) c4.abo) k (l++[Bc.uab.length]):=by
    rw[et,Qg,MI,List.foldl_nil];unfold Eg;rw[hl];rfl
   have ea:=P'.at_ .above _ rfl;have el:=IH P' hl;refine A2 (AJ (Bg (Cd Fu Fv (HM B (by rw[AP ⋯];exact r1) P'.iH (GH w) GK Ar (.dictI ea) (DK.get (Fh w) ea (Hj hl)
    ⟨rfl,el,Ab (AG (by rw[AP ⋯];exact r2) (FC el (by rw[AU];exact ln a1 rfl) ?_))⟩)))))
   refine C4 P' (.abv k) (c':={c4 with abo:=(kk.take (i+1)).foldl (Eg Bc.uab.length) c4.abo}) ?h1 (fun e0 P7 F7 k7=>Ax ⟨!a7,by rw[AP ⋯];exact r1,by rw[AP ⋯];exact r2,P7,F'.trans F7,F7.out b1 c9⟩) (by show(AH _ k).map _≠none;rw[hl];exact Ag _) ?h2
   case h1=>
    show(AH ((kk.take (i+1)).foldl (Eg Bc.uab.length) c4.abo) k).map _=_;rw[ef,Dt,if_pos rfl,a0];simp
   case h2=>
    intro t ht y hy;cases t<;>first|exact hy|skip
    ·change some (AO.dictI (((kk.take (i+1)).foldl (Eg Bc.uab.length) c4.abo).map _))=_ at hy;rw[ef]at hy;rw[←hy];have pk:=aQ (K:=Nat) (fun(j:Nat)=>AV.ref (L4 (.abv j))) (v:=l++[Bc.uab.length]) hl;have a9:=congrArg (Iu fun p:Nat×AV=>((p.1:Int),p.2)) pk;rw[Bx,Bx]at a9;exact congrArg (fun x=>some (AO.dictI x)) a9.symm
    ·rename_i j;change((AH ((kk.take (i+1)).foldl (Eg Bc.uab.length) c4.abo) j).map _)=_ at hy;rw[ef,Dt,if_neg (fun e=>ht (by rw[e]))]at hy;exact hy
  |none=>
   have a7:i=kk.length:=by have:=Gb.mp hq;exact Ep hi this
   subst a7;rw[jl,←c1]at P' F';refine AJ (Bg (Bu B r1 P'.iH () (aw w) (eV w) (Ab (AG r2 (cH B (R.up rfl) P' (hS w' d) (by show _<(Bc.nodes++[Dv]).length;simp) fun L8 e4 P8 F8=>?_)))));exact AJ (CD (AG r2 (q _ _ _ _ P8 (F'.trans F8))))
theorem eP{σ A c L nd Φ}:Vu σ A c L nd Φ:=@zF _ gP _ @oX (((σ,A),c),((L,nd),Φ))
variable {c0:HS} {L0:AZ}
theorem vc(B:Aj)(R:Ah A 10)(P:AS σ L c)(S:D0 c)(e:AH c.nums (x,[])=none)(ho:Cx x)(hz:c.nodes.length≤900)
  (n:∀k,AH c.abo k≠none→k<c.uab.length)(hS:∀w d,D0 (Fd c (x,[]) w d))
  (q:∀m d L' σ',AS σ' L' ((Fd c (x,[]) m d).lookAt c.nodes.length)→Fm σ c L σ' ((Fd c (x,[]) m d).lookAt c.nodes.length) L'→Φ (.int (c.nodes.length:Nat)) σ'):
  AF A (.ref 296) [.ref (L .hp),.tup [.str x]] σ Φ:=by
 refine GU (F:=(d7 w)) (names:=["self","term"]) B R rfl (fun Lf=>?_) (DG fun zz zz=>rfl) rfl ∅
 ·refine AJ (CD (Bu B () P.iH () (cF w) (Ri w) (BX (CV (AG () (BB ⟨⟨_,_,.tup⟩,Fk (!CZ o1) () (!CZ o2)
   (FF B (JD w) Jg (Ab (QE R.handled (Pz (NX () (!Be _) ⟨[],rfl,trivial,[],TV,!Be _,id,by simp,fun D nD nb=>?_⟩)) ())))⟩))))))
  refine Lh P nD fun a0 hD P1 F1 nf ks=>?_;refine Lj hD (!Be _) ?_;exact eP (nd:=(x,[])) B (R.deeper _) P1 S e (!Be _) ho (by simp) hz n hS fun m d L' σ' P' F'=>q m d L' σ' P' (F1.trans F')
theorem AS.takeG(P:AS σ L c)(s₀ s₁:Slot){a:AB}{x y:AO}{c':HS}{Ψ:AA→Prop}(ha:σ a=some x)(F:Fm τ c0 L0 σ c L)(a3:A8 c0 L0 a∨τ a=none)(nf:¬A8 c L a)(hf:JM s₀=some s₁)
  (e0:Aw c' (L.put s₀ a) s₀=some x)(e1:Aw c' (L.put s₀ a) s₁=some y)(hs:∀t,t≠s₀→t≠s₁→∀z,Aw c' L t=some z→Aw c L t=some z)
  (q:∀σ',AS σ' (L.put s₀ a) c'→Fm τ c0 L0 σ' c' (L.put s₀ a)→(∀b,b≠L s₁→σ' b=σ b)→(∀b,b≠a→¬A8 c L b→¬A8 c' (L.put s₀ a) b)→Ψ σ')(h1:Aw c L s₁≠none):Ψ (Internal.upd σ (L s₁) y):=by
 have ne:s₁≠s₀:=by
  rintro rfl;cases s₁<;>cases hf
 have a0:∀t,t≠s₀→t≠s₁→∀z,Aw c' (L.put s₀ a) t=some z→Aw c L t=some z:=fun t m h1 z hz=>by
  rw[Uw hf h1]at hz;exact hs t m h1 z hz
 have hn:s₀≠.numbers∧s₀≠.known∧s₀≠.above:=by refine⟨?_,?_,?_⟩<;>rintro rfl<;>cases hf
 refine q _ (P.attach s₀ s₁ ha nf h1 ne e0 e1 a0 hn) ⟨fun b n f=>?_,fun b a1=>AI a1 fun s hq e=>?_,?_⟩ (fun b hb=>Au _ _ hb) fun b hb nb a2=>AI a2 fun s hq e=>?_
 ·have a4:b≠L s₁:=by
   rintro rfl;rcases F.foot _ ⟨s₁,h1,rfl⟩with g|g
   ·exact f g
   ·exact n g
  rw[Au _ _ a4];exact F.keep b n f
 ·by_cases m:s=s₀
  ·subst m;rw[Fn]at e;subst e;exact a3
  ·rw[Bd _ _ m]at e;refine F.foot b ⟨s,?_,e⟩;by_cases h:s=s₁
   ·rw[h];exact h1
   ·refine AY (ER.mp hq) fun z hz=>?_;rw[a0 s m h z hz];exact Ag _
 ·rw[Bd _ _ (by rintro rfl;exact As hf)];exact F.root
 ·by_cases m:s=s₀
  ·subst m;rw[Fn]at e;exact hb e.symm
  ·rw[Bd _ _ m]at e;refine nb ⟨s,?_,e⟩;by_cases h:s=s₁
   ·rw[h];exact h1
   ·refine AY (ER.mp hq) fun z hz=>?_;rw[a0 s m h z hz];exact Ag _
abbrev E0(c:HS):HS:={c with marks:=c.marks++[(c.changes.length,c.waiting)]}
set_option tactic.hygienic true in
theorem ZF(B:Aj)(R:Ah A 1)(P:AS σ L c)(z2:c.changes.length≤1000)(z5:c.waiting.length≤1000)(zm:c.marks.length≤1000)
  (q:∀L' σ',AS σ' L' (E0 c)→Fm σ c L σ' (E0 c) L'→Φ .none σ'):AF A (.ref 422) [.ref (L .hp)] σ Φ:=by
 refine AF.def (F:=(XB w)) (names:=["self"]) B R rfl (fun Lf=>?_) (FL fun _=>rfl) rfl ∅
 ·have e1:=P.at_ .marks _ rfl;have e2:=P.at_ .changes _ rfl;have e3:=P.at_ .waiting _ rfl;refine AJ (Bg (Cd Fu Fv (BM B () P.iH (Qj w) Rf ⟨rfl,e1,Ab (Bw (BX
   (Bo B (Cb w) Ca (Ab (BM B () P.iH (Jd w) Iz (Cj e2 (by rw[AU,Et];exact ln z2 rfl)
   (FF B (JR w) Jc (Ab (BM B () P.iH (OQ w) MO (KY e3 (by rw[AU];exact ln z5 rfl) fun D nD nb=>?_))))))))))⟩)))
  rw[AU,Et];refine⟨!ld rfl,?_⟩;refine Lh P nD fun a0 hD P1 F1 nf ks=>?_;have e1:=P1.at_ .marks _ rfl;refine FC e1 (by rw[AU,Et];exact ln zm rfl) ?_;refine TP P1 (.mark c.marks.length) .marks (τ:=σ) (c':=E0 c) hD nD F1 nf rfl ?_ ?_ (fun t t0 t1 z m=>?_) fun a1 P2 F2=>Ax (q _ _ P2 F2)
  ·show((c.marks++[_])[c.marks.length]?.map _)=_;rw[It (A9 _),Qf];rfl
  ·show some (AO.list ((c.marks++[_]).zipIdx.map _))=_;rw[OA,Cw];have:c.marks.zipIdx.map (fun p=>AV.tup [.int p.1.1,.ref (L.put (.mark c.marks.length) D (.mark p.2))])=c.marks.zipIdx.map fun p=>AV.tup [.int p.1.1,.ref (L (.mark p.2))]:=by
    refine Dz fun p hp=>?_;obtain⟨x,j⟩:=p;have hj:j<c.marks.length:=by
     have:=List.mem_zipIdx hp;exact Nat.lt_of_lt_of_eq this.2.1 (Nat.zero_add _)
    rw[Bd _ _ (by intro e;obtain rfl:=Internal.Slot.mark.inj e;exact absurd hj (EP _))]
   rw[this];simp
  ·cases t<;>first|exact m|exact absurd rfl t1|skip
   rename_i i;change((c.marks++[_])[i]?.map _)=_ at m;show(c.marks[i]?.map _)=_;by_cases n:i<c.marks.length
   ·rw[Es n]at m;exact m
   ·exfalso;rw[It (!EU n)]at m;have:i-c.marks.length≠0:=fun e=>t0 (by rw[show i=c.marks.length by exact nO n e]);refine AY (jz this) fun k hk=>?_;rw[hk]at m;cases m
theorem tn(m:AZ){k:Nat}{l:List Nat}{D:AB}(e:AH c.abo k=none):
  Av (c.abo.map fun p=>((p.1:Int),AV.ref (m (.abv p.1)))) (k:Int) (.ref D)=(Av c.abo k l).map fun p=>((p.1:Int),AV.ref (m.put (.abv k) D (.abv p.1))):=by
 unfold Av;rw[R3 (fun i=>AV.ref (m (.abv i))),e];simp only[Option.map_none,Yy,HU,if_false];rw[Cw];congr 1
 ·refine Dz fun p hp=>?_;have:p.1≠k:=fun n=>by
   have:AH c.abo p.1≠none:=by
    unfold AH;simp only[ne_eq,Zfv,Yw];intro h;exact absurd (by simp) (h p hp)
   rw[n,e]at this;exact this rfl
  rw[Bd _ _ (by simpa using this)]
 ·simp
theorem Fm.fresh(F:Fm τ c0 L0 σ c L)(n:σ D=none):A8 c0 L0 D∨τ D=none:=by
 by_cases f:A8 c0 L0 D
 ·exact .inl f
 ·refine .inr ?_;cases z:τ D with
  |none=>rfl
  |some v=>have:=F.keep D (by rw[z];exact Ag _) f;rw[n,z]at this;exact As this
abbrev cL(k m g:Nat)(U:AB):AV:=.tup [.str "edge",.int k,.int m,.int g,.ref U]
theorem mG(B:Aj)(R:Ah A 1)(P:AS σ L c)(he:c.edges=es++[e])(z:es.length≤1000)
  (q:∀σ',AS σ' L {c with edges:=es}→Fm σ c L σ' {c with edges:=es} L→Φ .none σ'):AF A (.ref 457) [.ref (L .hp),cL k m k U] σ Φ:=by
 refine AF.def (F:=(R6 w)) (names:=["self","change"]) B R rfl (fun Lf=>?_) (DG fun zz zz=>rfl) rfl ∅
 ·refine AJ (BR (AG () (FB R.handled (.tup _) rfl (BZ (A2 (BZ (A2 (BZ (A2 (BZ (A2 (BZ (A2 (Dm ?_))))))))))))));have n:σ (L .edges)=some (.list (es++[e])):=by rw[←he];exact P.at_ .edges _ rfl
  refine AJ (Bg (Cd FW Fw (BM B () P.iH (OU w) Oq ⟨rfl,n,AC.nil (FS n (!ln z rfl) ?_)⟩)));refine C4 P .edges (c':={c with edges:=es}) (by first|exact Ag _|(show some _=some _;simp)) fun a0 P1 F1 zz=>?_
  refine AJ (CP (Bj (AG () (AG () (NO (BO ?_))))));refine Ba (show(not (decide ((k:Int)=(k:Nat))))=false by simp) ?_;exact Ax (Ax (q _ P1 F1))
abbrev Ra(c:HS)(es:List AV)(n:List Nat)(ms:List (Nat×Nat))(k m g:Nat)(l1 us lk:List Nat):HS:=
 {c with edges:=es,forest:=n,merged:=ms,uab:=c.uab.set g g,lots:=c.lots.set k l1,abo:=Av (Av c.abo k (lk.take m)) g us}
structure NB(c:HS)(es:List AV)(e:AV)(fs:List Nat)(f:Nat)(ms:List (Nat×Nat))(k m g:Nat)(l1 l2 us lk:List Nat):Prop where
 he:c.edges=es++[e]
 hf:c.forest=fs++[f]
 hm:c.merged=ms++[(k,g)]
 hk:k≠g
 hg:g<c.uab.length
 h1:c.lots[k]? =some (l1++l2)
 h2:c.lots[g]? =some l2
 O:Of c
 sz:c.uab.length≤1000
 ek:AH c.abo k=some lk
 eg:AH c.abo g=none
 zk:lk.length≤1000
 z1:c.edges.length≤1000
 z2:c.forest.length≤1000
 z3:c.abo.length≤1000
def Zcv{a0 a1 a2 a3 a4 a5 a6 a7 a8 a9 n m b0}{c:Prop}:=@NB.casesOn a0 a1 a2 a3 a4 a5 a6 a7 a8 a9 n m b0 (fun zz=>c)
def Ud(σ:AA)(τ:AA)(A:AX)(c:HS)(c0:HS)(L:AZ)(L0:AZ)(es:List AV)(e:AV)(fs:List Nat)(f:Nat)(ms:List (Nat×Nat))(k:Nat)(m:Nat)(g:Nat)(l1:List Nat)(l2:List Nat)(n:List Nat)(lk:List Nat)(U:AB)(Φ:AV→AA→Prop):Prop:=∀(B:Aj)(R:Ah A 2)(P:AS σ L c)(O:NB c es e fs f ms k m g l1 l2 n lk)(hU:σ U=some (.list (nats n)))(nU:¬A8 c L U)(F:Fm τ c0 L0 σ c L)(fU:A8 c0 L0 U∨τ U=none)(q:∀L' σ',AS σ' L' (Ra c es fs ms k m g l1 n lk)→Fm τ c0 L0 σ' (Ra c es fs ms k m g l1 n lk) L'→Φ .none σ'),AF A (.ref 457) [.ref (L .hp),cL k m g U] σ Φ
def gp:((((AA×AA)×AX)×((HS×HS)×AZ))×(((AZ×List AV)×AV)×(List Nat×Nat)))×(((((List (Nat×Nat))×Nat)×Nat)×(Nat×List Nat))×(((List Nat×List Nat)×List Nat)×(AB×(AV→AA→Prop))))→Prop:=fun t=>Ud t.1.1.1.1.1 t.1.1.1.1.2 t.1.1.1.2 t.1.1.2.1.1 t.1.1.2.1.2 t.1.1.2.2 t.1.2.1.1.1 t.1.2.1.1.2 t.1.2.1.2 t.1.2.2.1 t.1.2.2.2 t.2.1.1.1.1 t.2.1.1.1.2 t.2.1.1.2 t.2.1.2.1 t.2.1.2.2 t.2.2.1.1.1 t.2.2.1.1.2 t.2.2.1.2 t.2.2.2.1 t.2.2.2.2
def D8:=zE gp ((((((fun _=>none),(fun _=>none)),{}),((De,De),(fun _=>0))),((((fun _=>0),[]),.none),([],0))),(((([],0),0),(0,[])),((([],[]),[]),(0,(fun _ _=>True)))))
def Z2:=D8.1.1.1.1.1
def sX:=D8.1.1.1.1.2
def yP:=D8.1.1.1.2
def Dr:=D8.1.1.2.1.1
def tM:=D8.1.1.2.1.2
def Ja:=D8.1.1.2.2
def kU:=D8.1.2.1.1.1
def Kq:=D8.1.2.1.1.2
def KA:=D8.1.2.1.2
def Mc:=D8.1.2.2.1
def gU:=D8.1.2.2.2
def OM:=D8.2.1.1.1.1
def GQ:=D8.2.1.1.1.2
def Gi:=D8.2.1.1.2
def JK:=D8.2.1.2.1
def Qv:=D8.2.1.2.2
def lW:=D8.2.2.1.1.1
def MR:=D8.2.2.1.1.2
def Hq:=D8.2.2.1.2
def IM:=D8.2.2.2.1
def sq:=D8.2.2.2.2
theorem qp:Ud Z2 sX yP Dr tM Ja kU Kq KA Mc gU OM GQ Gi JK Qv lW MR Hq IM sq:=fun B R P O hU nU F fU q=>by
 refine Zcv O fun he hf hm hk hg h1 h2 OO sz ek eg zk z1 z2 z3=>?_;refine AF.def (F:=(R6 w)) (names:=["self","change"]) B R rfl (fun Lf=>?_) (DG fun _ _=>rfl) rfl ∅
 ·refine AJ (BR (AG () (FB R.handled (.tup _) rfl (BZ (A2 (BZ (A2 (BZ (A2 (BZ (A2 (BZ (A2 (Dm ?_))))))))))))));have e1:Z2 (Ja .edges)=some (.list (Kq++[KA])):=by rw[←he];exact P.at_ .edges _ rfl
  rw[he]at z1;rw[hf]at z2;simp at z1 z2;refine AJ (Bg (Cd FW Fw (BM B () P.iH (OU w) Oq ⟨rfl,e1,AC.nil (FS e1 (!ln z1 rfl) ?_)⟩)));refine C4 P .edges (c':={Dr with edges:=Kq}) (by first|exact Ag _|(show some _=some _;simp)) fun a3 P1 F1 _=>?_
  refine AJ (CP (Bj (AG () (AG () (NO (BO ?_))))));refine CQ (show(not (decide ((GQ:Int)=(JK:Nat))))=true by simp;exact Al xR hk) ?_;have e2:a3 (Ja .forest)=some (.list (nats Mc++[.int gU])):=by have:=P1.at_ .forest _ rfl;rw[this];show some (AO.list (nats Dr.forest))=_;rw[hf];simp
  refine AJ (Bg (Cd FW Fw (BM B () P1.iH (VG w) XE ⟨rfl,e2,AC.nil (FS e2 (by rw[AU];exact ln z2 rfl) ?_)⟩)));refine C4 P1 .forest (c':={Dr with edges:=Kq,forest:=Mc}) (by first|exact Ag _|(show some _=some _;simp)) fun b6 P2 F2 _=>?_
  have e3:=P2.at_ .merged _ rfl;have ml:=OO.m;refine AJ (Bg (C5 B () P2.iH (JT w) JE P2.iU () (qK w) (cm w) (Ab (CH (Bo B (Cb w) Ca (Ab (TW B (BM B () P2.iH (JT w) JE ⟨_,_,_,_,_,_,rfl,P2.iU,OT w,On,trivial,
   Cj e3 (by rw[AU];show Dr.merged.length≤_;exact ln ml rfl) (BB (NN ?_))⟩) (by intro zz;with_unfolding_all rfl))))))))
  rw[AU];have:((Dr.merged.length:Nat):Int)-1=(OM.length:Nat):=by rw[hm];simp
  show AF _ _ [_,.int (((Dr.merged.length:Nat):Int)-1)] _ _;rw[this];refine qZ B (R.deeper _) P2 hm hk hg h1 h2 ⟨OO.len,OO.sz,OO.m⟩ sz fun b7 P3 F3=>?_;have a1:=F.trans (F1.trans (F2.trans F3));refine AL ((F1.trans (F2.trans F3)).out hU nU) fun a0 b3=>?_;have e5:=P3.at_ .above _ rfl;refine AJ (BR (TS (HM B () P3.iH (GH w) GK () (.dictI e5) (DK.get (Fh w) e5 (Hj ek) ?_))));refine AG () ⟨Gi,rfl,⟨_,_,.list (IH P3 ek)⟩,Ji.list (ys:=(nats Hq).take Gi) (IH P3 ek) (by rw[AU];exact ln zk rfl) (.inl ⟨Gi,rfl,rfl,rfl⟩) fun D nD nb=>?_⟩;refine Pv P3 nD fun b1 hD P4 F4 nf ks=>?_;have a8:b1 IM=some (.list (nats MR)):=by rw[ks IM (by rintro rfl;exact As ((nD.symm.trans a0)))];exact a0
  have a2:¬A8 _ Ja IM:=b3;have b2:D≠IM:=by rintro rfl;exact As ((nD.symm.trans a0))
  have e8:=P4.at_ .above _ rfl;refine KZ (BM B () P4.iH (GH w) GK (AG () (DK.set (Fh w) e8 (by rw[AU];show Dr.abo.length≤_;exact ln z3 rfl) ?_)));have e9:=Zy (c:=Dr) Ja (l:=Hq.take Gi) (D:=D) ek;refine P4.takeG (.abv GQ) .above (c':={Dr with edges:=Kq,forest:=Mc,merged:=OM,uab:=Dr.uab.set JK JK,lots:=Dr.lots.set GQ Qv,abo:=Av Dr.abo GQ (Hq.take Gi)}) (x:=.list ((nats Hq).take Gi)) hD (a1.trans F4) (a1.fresh nD) nf rfl ?_ ?_ (fun t t0 t1 z n=>?_) (fun b0 P5 F5 k5 f5=>?_) (by first|exact Ag _|(show some _=some _;simp)) (Ψ:=fun σ'=>EX _ _ _ _ σ' _)
  ·show((AH (Av _ _ _) _).map _)=_;rw[Dt,if_pos rfl];show some (AO.list ((Hq.take Gi).map _))=_;rw[List.map_take]
  ·show some (AO.dictI _)=some (AO.dictI _);exact congrArg (fun x=>some (AO.dictI x)) e9.symm
  ·cases t<;>first|exact n|exact absurd rfl t1|skip
   rename_i i;change((AH (Av _ _ _) i).map _)=_ at n;rw[Dt,if_neg (fun KA=>t0 (by rw[KA]))]at n;exact n
  have a9:Ja.put (.abv GQ) D .hp=Ja .hp:=Bd _ _ (by simp);have a5:b0 IM=some (.list (nats MR)):=by
   rw[k5 IM (fun KA=>a2 ⟨.above,!Ag _,KA.symm⟩)];exact a8
  have b4:¬A8 {Dr with edges:=Kq,forest:=Mc,merged:=OM,uab:=Dr.uab.set JK JK,lots:=Dr.lots.set GQ Qv,abo:=Av Dr.abo GQ (Hq.take Gi)} (Ja.put (.abv GQ) D) IM:=f5 IM (Ne.symm b2) a2;have a7:=P5.at_ .above _ rfl;have a4:AH (Av Dr.abo GQ (Hq.take Gi)) JK=none:=by rw[Dt,if_neg (Ne.symm hk)];exact eg
  have a6:=tn (c:={Dr with abo:=Av Dr.abo GQ (Hq.take Gi)}) (Ja.put (.abv GQ) D) (l:=MR) (D:=IM) a4;refine AJ (BR (AG () (KZ (BM B (by rw[a9];rfl) P5.iH (GH w) GK (AG () (DK.set (Fh w) a7 (by rw[AU];show(Av Dr.abo GQ (Hq.take Gi)).length≤_;unfold Av;rw[ek];simp;exact ln z3 rfl) ?_))))));refine P5.takeG (.abv JK) .above (c':=Ra Dr Kq Mc OM GQ Gi JK Qv MR Hq) (x:=.list (nats MR)) a5 F5 fU b4 rfl ?_ ?_ (fun t t0 t1 z n=>?_) (fun b5 P6 F6 _ _=>?_) (by first|exact Ag _|(show some _=some _;simp)) (Ψ:=fun σ'=>EX _ _ _ _ σ' _)
  ·show((AH (Av _ _ _) _).map _)=_;rw[Dt,if_pos rfl];rfl
  ·show some (AO.dictI _)=some (AO.dictI _);exact congrArg (fun x=>some (AO.dictI x)) a6.symm
  ·cases t<;>first|exact n|exact absurd rfl t1|skip
   rename_i i;change((AH (Av _ _ _) i).map _)=_ at n;rw[Dt,if_neg (fun KA=>t0 (by rw[KA]))]at n;exact n
  ·exact Ax (Ax (q _ _ P6 F6))
theorem xj{σ τ A c c0 L L0 es e n f ms k m g l1 l2 us lk U Φ}:Ud σ τ A c c0 L L0 es e n f ms k m g l1 l2 us lk U Φ:=@zF _ gp _ @qp (((((σ,τ),A),((c,c0),L)),(((L0,es),e),(n,f))),((((ms,k),m),(g,l1)),(((l2,us),lk),(U,Φ))))
abbrev C3(ab:List (Nat×List Nat))(c:Nat):List (Nat×List Nat):=Av ab c ((AH ab c).getD []).dropLast
theorem g5:∀{ks:List Nat}{ab:List (Nat×List Nat)}{j:Nat},j∉ks→AH (ks.foldl C3 ab) j=AH ab j:=by
 intro ks
 induction ks with
 |nil=>
  intro ab j _;exact rfl
 |cons k ks m=>
  intro ab j h;rw[A7,not_or]at h;rw[MI,m h.2];unfold C3;rw[Dt,if_neg h.1]
structure Wh(c:HS)(n:Nat)(nd:Nd)(ns:List Nd)(ab:List Nat)(ls:List (List Nat)):Prop where
 nodes:c.nodes=ns++[nd]
 nn:ns.length=n
 uab:c.uab=ab++[n]
 nu:ab.length=n
 lots:c.lots=ls++[[n]]
 nl:ls.length=n
 U:Bz c.uab
 B:RL c
 kl:nd.2.length≤2
 kn:∀k∈nd.2,k<n
 num:(AH c.nums nd).isSome=true
 us:∀r∈ss (nd.2.map c.find),∃l x,AH c.abo r=some (l++[x])∧l.length≤1000
 abn:(AH c.abo n).isSome=true
 za:c.abo.length≤1000
abbrev RO(c:HS)(n:Nat)(nd:Nd)(ab:List Nat)(m:List (List Nat)):HS:=
 {IW c nd with uab:=ab,lots:=m,made:=n,abo:=BP ((ss (nd.2.map c.find)).foldl C3 c.abo) n}
theorem uJ:∀{ks:List Nat}{ab:List (Nat×List Nat)},(∀r∈ks,(AH ab r).isSome=true)→(ks.foldl C3 ab).length=ab.length:=by
 intro ks
 induction ks with
 |nil=>
  intro ab _;exact rfl
 |cons k ks m=>
  intro ab h;have n:=h k (.head _);rw(config:={}) [MI,m (fun r hr=>?_)]
  ·unfold C3 Av;rw(config:={}) [if_pos n];exact AU _
  ·unfold C3;rw(config:={}) [Dt];split
   ·rfl
   ·exact h r (.tail _ hr)
set_option tactic.hygienic true in
def Ve(σ:AA)(A:AX)(c:HS)(L:AZ)(n:Nat)(nd:Nd)(ns:List Nd)(ab:List Nat)(m:List (List Nat))(Φ:AV→AA→Prop):Prop:=∀(B:Aj)(R:Ah A 6)(P:AS σ L c)(O:Wh c n nd ns ab m)(q:∀σ',AS σ' L (RO c n nd ab m)→Fm σ c L σ' (RO c n nd ab m) L→Φ .none σ'),AF A (.ref 450) [.ref (L .hp),.int n] σ Φ
def eF:(((AA×AX)×HS)×(AZ×Nat))×(((Nd×List Nd)×List Nat)×(List (List Nat)×(AV→AA→Prop)))→Prop:=fun t=>Ve t.1.1.1.1 t.1.1.1.2 t.1.1.2 t.1.2.1 t.1.2.2 t.2.1.1.1 t.2.1.1.2 t.2.1.2 t.2.2.1 t.2.2.2
def IN:=zE eF (((((fun _=>none),{}),De),((fun _=>0),0)),(((BV,[]),[]),([],(fun _ _=>True))))
def M6:=IN.1.1.1.1
def se:=IN.1.1.1.2
def Bn:=IN.1.1.2
def HF:=IN.1.2.1
def Ey:=IN.1.2.2
def EI:=IN.2.1.1.1
def VB:=IN.2.1.1.2
def RI:=IN.2.1.2
def RT:=IN.2.2.1
def Za8:=IN.2.2.2
set_option tactic.hygienic true in
theorem uY:Ve M6 se Bn HF Ey EI VB RI RT Za8:=fun B R P O q=>by
 have sz:=O.B.n;have b0:Bn.uab.length=Ey+1:=by rw[O.uab,BJ,O.nu];rfl
 have c6:Bn.nodes.length=Ey+1:=by rw[O.nodes,BJ,O.nn];rfl
 have b4:Bn.nodes[Ey]? =some EI:=by rw[O.nodes,It (by rw[O.nn];exact A9 _),O.nn];simp
 have c1:∀k∈EI.2,k<Bn.uab.length:=fun k hk=>by have:=O.kn k hk;exact AK this (Cy (Ac b0.symm))
 have kl:=O.kl;have za:=O.za;refine GU (F:=(VU w).2) (names:=["self","n"]) B R rfl (fun Lf=>?_) (DG fun _ _=>rfl) rfl ∅
 ·refine AJ (Gs R.handled (FA (TT B R.handled (TO B (x:="kid") (ks:=EI.2) (R.up rfl) (C5 B () P.iH (LR w) LD P.iB () (cE w) (VC w).2 (Ab (AG ()
   (gD B (R.up rfl) P b4 sz (!ln kl rfl) ⟨rfl,P,O.U,c1,!ln kl rfl,fun D5 a3 c5=>?_⟩))))
   () ⋯ () (fun _=>by rfl) (fun _=>by rfl) (fun _=>by rfl) ⋯))))
  have P5:=P.ext (.new (x:=.list (nats (EI.2.map Bn.find))) a3);refine⟨_,_,rfl,Am _ _ _,by rw[AU];exact ln (CG kl) rfl,fun E nE c8=>?_⟩;have P6:=P5.ext (.new (x:=.list (nats (Internal.ss (EI.2.map Bn.find)))) nE);have c2:=P5.out nE;have X6:An M6 (upd (upd M6 D5 (.list (nats (EI.2.map Bn.find)))) E (.list (nats (Internal.ss (EI.2.map Bn.find))))):=(An.new a3).trans (.new nE);have b2:=X6.fm (c:=Bn) (L:=HF);have hE:=Am (upd M6 D5 (.list (nats (EI.2.map Bn.find)))) E (.list (nats (Internal.ss (EI.2.map Bn.find))));generalize upd (upd M6 D5 (.list (nats (EI.2.map Bn.find)))) E (.list (nats (Internal.ss (EI.2.map Bn.find))))=σ6 at*;have a4:=O.us;have a9:=Om (EI.2.map Bn.find);have a6:Ey∉Internal.ss (EI.2.map Bn.find):=fun h=>by
   refine AI (BD.mp (Mb.mp h)) fun k hk e=>?_;have h1:=O.kn k hk;have h2:Bn.find k≤k:=Jy _ _;exact EP _ (AK (AK h1 (Ac e.symm)) h2)
  have c3:RO Bn Ey EI RI RT={IW Bn EI with uab:=RI,lots:=RT,made:=Ey,abo:=BP ((Internal.ss (EI.2.map Bn.find)).foldl C3 Bn.abo) Ey}:=rfl;rw[c3]at q;generalize Internal.ss (EI.2.map Bn.find)=kk at*;refine⟨E,_,rfl,hE,trivial,trivial,kk.length,fun i ρ' σ'=>i≤kk.length∧ρ' "self"=some (.ref (HF .hp))∧ρ' "n"=some (.int Ey)∧AS σ' HF {Bn with abo:=(kk.take i).foldl C3 Bn.abo}∧Fm M6 Bn HF σ' {Bn with abo:=(kk.take i).foldl C3 Bn.abo} HF∧σ' E=some (.list (nats kk))∧¬A8 {Bn with abo:=(kk.take i).foldl C3 Bn.abo} HF E,
   ⟨!Be _,by rfl,by rfl,P6,b2,hE,c2⟩,?_⟩
  rintro i ρ' σ' ⟨hi,r1,r2,P',F',a5,b7⟩;refine⟨hi,_,⟨_,a5,rfl⟩,?_⟩;rw[CK];cases hq:kk[i]? with
  |some k=>
   have a0:=(BY.mp hq).1;have b3:k∉kk.take i:=fun hm=>by
    obtain⟨j,hj,b6⟩:=List.mem_take_iff_getElem.mp hm;have h2:=(BY.mp hq).2;have:=QY.mp a9 j i (!tg hj) a0 (!wi hj);exact EP _ (AK (AK (CG (Ac h2)) (CG (Ac b6.symm))) this)
   refine Cr (a4 k (DE hq)) fun l x a1 a8=>?_;have hl:AH ((kk.take i).foldl C3 Bn.abo) k=some (l++[x]):=by rw[g5 b3];exact a1
   have et:kk.take (i+1)=kk.take i++[k]:=by rw[G4,hq];rfl
   have ef:(kk.take (i+1)).foldl C3 Bn.abo=Av ((kk.take i).foldl C3 Bn.abo) k l:=by
    rw[et,Qg,MI,List.foldl_nil];unfold C3;rw[hl];simp
   have ea:=P'.at_ .above _ rfl;have el:=IH P' hl;have a7:σ' (HF (.abv k))=some (.list (nats l++[.int x])):=by rw[el];simp
   refine A2 (AJ (Bg (Cd FW Fw (HM B (by rw[AP ⋯];exact r1) P'.iH (GH w) GK Ar (.dictI ea) (DK.get (Fh w) ea (Hj hl)
    ⟨rfl,a7,AC.nil (FS a7 (by rw[AU];exact ln a8 rfl) ?_)⟩)))))
   refine C4 P' (.abv k) (c':={Bn with abo:=(kk.take (i+1)).foldl C3 Bn.abo}) ?h1 (fun b1 P7 F7 k7=>Ax ⟨!a0,by rw[AP ⋯];exact r1,by rw[AP ⋯];exact r2,P7,F'.trans F7,F7.out a5 b7⟩) (by show(AH _ k).map _≠none;rw[hl];simp) ?h2
   case h1=>
    show(AH ((kk.take (i+1)).foldl C3 Bn.abo) k).map _=_;rw[ef,Dt,if_pos rfl];rfl
   case h2=>
    intro t ht y hy;cases t<;>first|exact hy|skip
    ·change some (AO.dictI (((kk.take (i+1)).foldl C3 Bn.abo).map _))=_ at hy;rw[ef]at hy;rw[←hy];have pk:=aQ (K:=Nat) (fun(j:Nat)=>AV.ref (HF (.abv j))) (v:=l) hl;have a2:=congrArg (Iu fun p:Nat×AV=>((p.1:Int),p.2)) pk;rw[Bx,Bx]at a2;exact congrArg (fun x=>some (AO.dictI x)) a2.symm
    ·rename_i j;change((AH ((kk.take (i+1)).foldl C3 Bn.abo) j).map _)=_ at hy;rw[ef,Dt,if_neg (fun e=>ht (by rw[e]))]at hy;exact hy
  |none=>
   have a0:i=kk.length:=by have:=Gb.mp hq;exact Ep hi this
   subst a0;rw[jl]at P' F';have ea:=P'.at_ .above _ rfl;have b5:(kk.foldl C3 Bn.abo).length=Bn.abo.length:=uJ fun r hr=>by refine Cr (a4 r hr) fun l x h _=>?_;rw[h];rfl
   refine AY (Lu.mp O.abn) fun l0 a1=>?_;have c4:AH (kk.foldl C3 Bn.abo) Ey=some l0:=by rw[g5 a6];exact a1
   refine AJ (ib (BM B r1 P'.iH (GH w) GK (AG r2 (Zdw (Fh w) ea (by rw[AU];show(kk.foldl C3 Bn.abo).length≤_;exact ln (AK (Ac b5) za) rfl) (by rw[Hj (L:=HF) c4];rfl) ?_))));have ed:BP ((kk.foldl C3 Bn.abo).map fun p=>((p.1:Int),AV.ref (HF (.abv p.1)))) (Ey:Int)=(BP (kk.foldl C3 Bn.abo) Ey).map fun p=>((p.1:Int),AV.ref (HF (.abv p.1))):=by
    unfold BP;rw[Js];refine congrArg _ (UN fun p _=>?_);simp only[N9];exact decide_eq_decide.mpr (!Al Zr)
   refine C4 P' .above (c':={Bn with abo:=BP (kk.foldl C3 Bn.abo) Ey}) (congrArg (fun x=>some (AO.dictI x)) ed.symm) (fun b1 P7 F7 _=>?_) (by first|exact Ag _|(show some _=some _;simp)) ?h3
   case h3=>
    intro t ht y hy;cases t<;>first|exact hy|exact absurd rfl ht|skip
    rename_i j;change((AH (BP _ _) j).map _)=_ at hy;rw[Ry]at hy;split at hy
    ·exact As hy
    ·exact hy
   refine AJ (Bg (C5 B r1 P7.iH (JT w) JE P7.iU () (qf w) (Uz w).2 (Ab (AG r2 (Zax B (R.deeper _ |>.mono (!A9 _)) P7 O.U O.uab O.lots O.nu O.nl fun d2 P8 F8=>?_)))));refine AJ (Bg (C5 B r1 P8.iH (LR w) LD P8.iB () (ti w) (V2 w).2 (Ab (AG r2 ?_))));rw[show AV.int ((Ey:Nat):Int)=.int (VB.length:Nat) by rw[O.nn]];refine mT (n:=EI) (ns:=VB) B (R.up rfl) P8 ⟨O.B.n,O.B.w,O.B.d,O.B.m⟩ O.nodes O.num fun c9 P9 F9=>?_;refine AJ (BR (AG r2 (QA B (AG r1 ?_))));refine⟨_,_,_,_,_,11,rfl,P9.iH,U0 w,.inr ⟨rfl,by rw[U1];simp⟩,!ld rfl,?_⟩;rw[Zj (m:=Ey)];refine C4 P9 .hdx (c':={IW Bn EI with uab:=RI,lots:=RT,made:=Ey,abo:=BP (kk.foldl C3 Bn.abo) Ey}) (hs:=by intro t ht y hy;cases t<;>first|exact absurd rfl ht|exact hy) rfl fun d1 P4 F4 _=>?_
   exact Ax (q _ P4 (F'.trans (F7.trans (F8.trans (F9.trans F4)))))
theorem mB{σ A c L n nd ns ab m Φ}:Ve σ A c L n nd ns ab m Φ:=@zF _ eF _ @uY ((((σ,A),c),(L,n)),(((nd,ns),ab),(m,Φ)))
inductive KQ:HS→HS→Prop
 |known {c:HS} {chs:List Ch} {k:Nd}:c.changes=chs++[.known k]→(AH c.known k).isSome=true→c.known.length≤1000→KQ c {c with changes:=chs,known:=BP c.known k}
 |loose {c:HS} {chs:List Ch} {k m:Nat} {es:List AV} {e:AV}:c.changes=chs++[.loose k m k]→c.edges=es++[e]→es.length≤1000→KQ c {c with changes:=chs,edges:=es}
 |edge {c:HS} {chs:List Ch} {es:List AV} {e:AV} {fs:List Nat} {f:Nat} {ms:List (Nat×Nat)} {k m g:Nat} {l1 l2 us lk:List Nat}:c.changes=chs++[.edge k m g us]→NB c es e fs f ms k m g l1 l2 us lk→
   KQ c (Ra {c with changes:=chs} es fs ms k m g l1 us lk)
 |made {c:HS} {chs:List Ch} {n:Nat} {nd:Nd} {ns:List Nd} {ab:List Nat} {ls:List (List Nat)}:c.changes=chs++[.made n]→Wh c n nd ns ab ls→KQ c (RO {c with changes:=chs} n nd ab ls)
structure PC(many:Nat)(J:Nat→HS→Prop):Prop where
 len:∀m c,J m c→c.changes.length=many+m∧c.changes.length≤1000
 step:∀m c,J (m+1) c→∃c',KQ c c'∧J m c'
theorem Zba:(fun y=>if y=("backs":Str)then some (AV.int m)else DW c L y)=DW {c with backs:=m} L:=funext fun y=>WR (y:=y) (l1:=(hP c L).take 7) (l2:=(hP c L).drop 8) (v':=.int c.backs) (show("backs":Str)∉hN.take 7 by decide+kernel)
theorem tI:(fun y=>if y=("waiting":Str)then some (AV.ref a)else DW c L y)=DW c (L.put .waiting a):=funext fun y=>WR (y:=y) (l1:=(hP c L).take 6) (l2:=(hP c L).drop 7) (v':=.ref (L .waiting)) (show("waiting":Str)∉hN.take 6 by decide+kernel)
theorem AS.wait(P:AS σ L c)(ha:σ a=some (.list (nats ws)))(na:¬A8 c L a)(F:Fm τ c0 L0 σ c L)(fa:A8 c0 L0 a∨τ a=none){Ψ:AA→Prop}
  (q:∀σ',AS σ' (L.put .waiting a) (Ec c ws)→Fm τ c0 L0 σ' (Ec c ws) (L.put .waiting a)→Ψ σ'):
  Ψ (Internal.upd σ (L .hdx) (.ns 11 fun y=>if y=("waiting":Str)then some (AV.ref a)else DW c L y)):=by
 rw[tI];have ct:∀t,t≠.waiting→t≠.hdx→Aw (Ec c ws) (L.put .waiting a) t=Aw c L t:=fun t m h2=>by
  cases t<;>first|exact absurd rfl m|exact absurd rfl h2|rfl
 have pt:∀t,t≠.waiting→L.put .waiting a t=L t:=fun t h=>Bd _ _ h;have hd:Aw c L .hdx≠none:=by exact Ag _
 have ne:a≠L .hdx:=fun e=>na ⟨.hdx,hd,e.symm⟩;have a0:∀t,t≠.waiting→Aw (Ec c ws) (L.put .waiting a) t≠none→Aw c L t≠none:=fun t h hz=>by
  by_cases h2:t=.hdx
  ·rw[h2];exact hd
  ·rw[←ct t h h2];exact hz
 refine q _ ⟨fun s y hy=>?_,fun s t hs ht e=>?_,?_⟩ ⟨fun b n f=>?_,fun b a1=>AI a1 fun s hs e=>?_,?_⟩
 ·by_cases m:s=.waiting
  ·subst m;obtain rfl:=Ao hy;rw[Fn,Au _ _ ne];exact ha
  ·rw[pt s m];by_cases h2:s=.hdx
   ·subst h2;rw[Am];exact hy
   ·rw[ct s m h2]at hy;rw[Au _ _ (fun e=>h2 (P.inj s .hdx (by rw[hy];exact Ag _) hd e))];exact P.at_ s y hy
 ·by_cases m:s=.waiting<;>by_cases h2:t=.waiting
  ·rw[m,h2]
  ·exfalso;rw[m,Fn,pt t h2]at e;exact na ⟨t,a0 t h2 ht,e.symm⟩
  ·exfalso;rw[h2,Fn,pt s m]at e;exact na ⟨s,a0 s m hs,e⟩
  ·rw[pt s m,pt t h2]at e;exact P.inj s t (a0 s m hs) (a0 t h2 ht) e
 ·rw[pt _ (!(by intro e;injection e)),pt _ (!(by intro e;injection e)),pt _ (!(by intro e;injection e))];exact P.n1
 ·have a2:b≠L .hdx:=by
   rintro rfl;rcases F.foot _ ⟨.hdx,hd,rfl⟩with g|g
   ·exact f g
   ·exact n g
  rw[Au _ _ a2];exact F.keep b n f
 ·by_cases m:s=.waiting
  ·subst m;rw[Fn]at e;subst e;exact fa
  ·rw[pt s m]at e;exact F.foot b ⟨s,a0 s m hs,e⟩
 ·rw[pt _ (!(by intro e;injection e))];exact F.root
set_option tactic.hygienic true in
theorem AS.unlog(P:AS σ L c)(hc:c.changes=chs++[ch]){Ψ:AA→Prop}
  (q:∀σ',AS σ' L {c with changes:=chs}→Fm σ c L σ' {c with changes:=chs} L→(∀k m g us,ch=.edge k m g us→σ' (L (.users chs.length))=some (.list (nats us))∧A8 c L (L (.users chs.length))∧¬A8 {c with changes:=chs} L (L (.users chs.length)))→Ψ σ'):
  Ψ (Internal.upd σ (L .changes) (.list (chs.zipIdx.map fun p=>FP L p.2 p.1))):=by
 have a0:∀t,t≠Slot.changes→∀y,Aw {c with changes:=chs} L t=some y→Aw c L t=some y∧t≠.users chs.length:=by
  intro t ht y hy;cases t<;>first|exact⟨hy,by simp⟩|exact absurd rfl ht|skip
  rename_i j;change(chs[j]?.bind _)=_ at hy;cases hq:chs[j]? with
  |none=>rw[hq]at hy;cases hy
  |some v=>
   have hj:=(BY.mp hq).1;refine⟨?_,by simp;exact Bp hj⟩;show(c.changes[j]?.bind _)=_;rw[hc,Es hj,hq];rw[hq]at hy;exact hy
 have hC:Aw c L .changes≠none:=by exact(by intro e;injection e)
 refine q _ (P.upd .changes hC rfl fun t ht y hy=>(a0 t ht y hy).1) (P.updFm .changes hC fun t ht=>?_) fun k m g us e=>?_
 ·by_cases e:t=.changes
  ·rw[e];exact hC
  ·refine AY (ER.mp ht) fun y hy=>?_;rw[(a0 t e y hy).1];exact Ag _
 ·subst e;have n:Aw c L (.users chs.length)=some (.list (nats us)):=by
   show(c.changes[chs.length]?.bind _)=_;rw[hc,It (A9 _),Qf];rfl
  have a2:L (.users chs.length)≠L .changes:=fun e=>by have:=P.inj _ .changes (by rw[n];exact Ag _) hC e;exact nomatch this
  refine⟨by rw[Au _ _ a2];exact P.at_ _ _ n,⟨_,by rw[n];exact Ag _,rfl⟩,fun a1=>AI a1 fun s hs e=>?_⟩;by_cases h:s=.changes
  ·subst h;exact a2 e.symm
  ·refine AY (ER.mp hs) fun y hy=>?_;refine AL (a0 s h y hy) fun h1 h2=>?_;exact h2 (P.inj s _ (by rw[h1];exact Ag _) (by rw[n];exact Ag _) e)
set_option tactic.hygienic true in
def Vz(σ:AA)(A:AX)(c:HS)(L:AZ)(many:Nat)(J:Nat→HS→Prop)(ms:List (Nat×List Nat))(n:List Nat)(m:Nat)(Φ:AV→AA→Prop):Prop:=∀(B:Aj)(R:Ah A 7)(P:AS σ L c)(X:PC many J)(hm:c.marks=ms++[(many,n)])(zm:c.marks.length≤1000)(hJ:J m {c with marks:=ms,backs:=c.backs+1})(q:∀c' L' σ',J 0 c'→AS σ' L' (Ec c' n)→Fm σ c L σ' (Ec c' n) L'→Φ .none σ'),AF A (.ref 429) [.ref (L .hp)] σ Φ
def fQ:(((AA×AX)×HS)×(AZ×Nat))×((((Nat→HS→Prop)×(List (Nat×List Nat)))×List Nat)×(Nat×(AV→AA→Prop)))→Prop:=fun t=>Vz t.1.1.1.1 t.1.1.1.2 t.1.1.2 t.1.2.1 t.1.2.2 t.2.1.1.1 t.2.1.1.2 t.2.1.2 t.2.2.1 t.2.2.2
def Ih:=zE fQ (((((fun _=>none),{}),De),((fun _=>0),0)),((((fun _ _=>True),[]),[]),(0,(fun _ _=>True))))
def ON:=Ih.1.1.1.1
def Zbh:=Ih.1.1.1.2
def Eu:=Ih.1.1.2
def EK:=Ih.1.2.1
def WN:=Ih.1.2.2
def fY:=Ih.2.1.1.1
def DX:=Ih.2.1.1.2
def Q2:=Ih.2.1.2
def Gq:=Ih.2.2.1
def mo:=Ih.2.2.2
set_option tactic.hygienic true in
theorem Zap:Vz ON Zbh Eu EK WN fY DX Q2 Gq mo:=fun B R P X hm zm hJ q=>by
 have c3:Eu.marks.length=DX.length+1:=by rw[hm];simp
 refine AF.def (F:=(PP w)) (names:=["self"]) B R rfl (fun Lf=>?_) (FL fun _=>rfl) rfl ∅
 ·have e1:=P.at_ .marks _ rfl;refine AJ (CP (Bj (Bo B (Cb w) Ca (Ab (BM B () P.iH (Qj w) Rf (Cj e1 (by rw[AU,Et];exact ln zm rfl) (BB (HP (BO ?_)))))))));rw[AU,Et];refine Ba (decide_eq_false (!Al yt c3)) ?_;refine Ax ?_;have c1:ON (EK .marks)=some (.list (DX.zipIdx.map (fun p=>AV.tup [.int p.1.1,.ref (EK (.mark p.2))])++[.tup [.int WN,.ref (EK (.mark DX.length))]])):=by
   rw[e1,hm,OA,Cw];simp
  have a3:Aw Eu EK (.mark DX.length)=some (.list (nats Q2)):=by
   show(Eu.marks[DX.length]?.map _)=_;rw[hm,It (A9 _),Qf];rfl
  have hW:=P.at_ _ _ a3;have fW:A8 Eu EK (EK (.mark DX.length)):=⟨_,by rw[a3];simp,rfl⟩;generalize b6:EK (.mark DX.length)=W at*;refine AJ (BR (Cd FW Fw (BM B () P.iH (Qj w) Rf ⟨rfl,c1,AC.nil (FS c1 (by rw[AU,Et];exact ln (AK (Cy (Ac c3.symm)) zm) rfl) ?_)⟩)));have b5:∀t,t≠Slot.marks→∀y,Aw {Eu with marks:=DX} EK t=some y→Aw Eu EK t=some y:=by
   intro t ht y hy;cases t<;>first|exact hy|exact absurd rfl ht|skip
   rename_i j;change(DX[j]?.map _)=_ at hy;show(Eu.marks[j]?.map _)=_;rw[hm];cases hq:DX[j]? with
   |none=>rw[hq]at hy;cases hy
   |some v=>rw[Es (BY.mp hq).1,hq];rw[hq]at hy;exact hy
  have P1:=P.upd (c':={Eu with marks:=DX}) .marks (x:=.list (DX.zipIdx.map fun p=>AV.tup [.int p.1.1,.ref (EK (.mark p.2))])) (by first|exact Ag _|(show some _=some _;simp)) (by first|exact Ag _|(show some _=some _;simp)) b5
  have F1:=P.updFm (c':={Eu with marks:=DX}) .marks (x:=.list (DX.zipIdx.map fun p=>AV.tup [.int p.1.1,.ref (EK (.mark p.2))])) (by first|exact Ag _|(show some _=some _;simp)) fun t ht=>by
   by_cases e:t=.marks
   ·rw[e];exact Ag _
   ·refine AY (ER.mp ht) fun y hy=>?_;rw[b5 t e y hy];simp
  have d4:Internal.upd ON (EK .marks) (.list (DX.zipIdx.map fun p=>AV.tup [.int p.1.1,.ref (EK (.mark p.2))])) W=some (.list (nats Q2)):=by
   rw[Au _ _ (fun e=>by have:=P.inj _ .marks (by rw[a3];simp) (by first|exact Ag _|(show some _=some _;simp)) (b6.trans e);exact nomatch this)];exact hW
  generalize Internal.upd ON (EK .marks) (.list (DX.zipIdx.map fun p=>AV.tup [.int p.1.1,.ref (EK (.mark p.2))]))=σ1 at*;have d2:¬A8 {Eu with marks:=DX} EK W:=by
   rintro⟨s,hs,e⟩;have hs0:Aw Eu EK s≠none∧s≠.mark DX.length:=by
    by_cases b7:s=.marks
    ·rw[b7];exact⟨!Ag _,by simp⟩
    cases s<;>first|exact⟨hs,by simp⟩|exact absurd rfl b7|skip
    rename_i j;change(DX[j]?.map _)≠none at hs;obtain⟨v,hv⟩:∃v,DX[j]? =some v:=by
     cases hq:DX[j]? with
     |none=>rw[hq]at hs;exact absurd rfl hs
     |some v=>exact⟨v,rfl⟩
    have hj:=(BY.mp hv).1;refine⟨?_,by simp;exact Bp hj⟩;show(Eu.marks[j]?.map _)≠none;rw[hm,Es hj,hv];simp
   exact hs0.2 (P.inj s _ hs0.1 (by rw[a3];simp) (e.trans b6.symm))
  refine FB R.handled (.tup _) rfl (BZ (A2 (BZ (A2 (Dm ?_)))));refine AJ (BR (CH (BM B () P1.iH (Za7 w) fh (BB (Jj (QA B (AG () ?_)))))));refine⟨_,_,_,_,_,11,rfl,P1.iH,ez w,.inr ⟨rfl,by rw[fh];simp⟩,!ld rfl,?_⟩;rw[Zba (c:={Eu with marks:=DX})];refine C4 P1 .hdx (c':={Eu with marks:=DX,backs:=Eu.backs+1}) rfl fun e0 P2 F2 _=>?_;have c9:=F1.trans F2;refine AL (F2.out d4 d2) fun d5 d1=>?_;refine AJ (Ll (fun Gq ρ' σ'=>∃c' L',fY Gq c'∧ρ' "self"=some (.ref (L' .hp))∧ρ' "many"=some (.int WN)∧ρ' "waiting"=some (.ref W)∧AS σ' L' c'∧Fm ON Eu EK σ' c' L'∧σ' W=some (.list (nats Q2))∧¬A8 c' L' W) Gq ⟨_,EK,hJ,by rfl,by rfl,by rfl,P2,c9,d5,d1⟩ ?_);rintro Gq ρ' σ' ⟨c',L',b2,r1,r2,r3,P',F',a5,a4⟩;refine AL (X.len Gq c' b2) fun b1 hz=>?_;have e4:=P'.at_ .changes _ rfl;refine Bj (Bo B (Cb w) Ca (Ab (BM B r1 P'.iH (Jd w) Iz (Cj e4 (by rw[AU,Et];exact ln hz rfl) (AG r2 (KW (BO ?_)))))));rw[AU,Et];cases Gq with
  |zero=>
   refine Ba (decide_eq_false (!Al kj b1)) ?_;refine AJ (BR (AG r3 (QA B (AG r1 ?_))));refine⟨_,_,_,_,_,11,rfl,P'.iH,fS w,.inr ⟨rfl,by rw[MO];simp⟩,!ld rfl,?_⟩;exact P'.wait a5 a4 F' (.inl fW) (Ψ:=fun σ'=>EX _ _ _ _ σ' _) fun a8 P3 F3=>Ax (q c' _ a8 b2 P3 F3)
  |succ Gq=>
   refine CQ (decide_eq_true (!BS nz b1)) ?_;refine AI (X.step Gq c' b2) fun c2 hU b0=>?_;have a9:∀{chs ch},c'.changes=chs++[ch]→σ' (L' .changes)=some (.list (chs.zipIdx.map (fun p=>FP L' p.2 p.1)++[FP L' chs.length ch])):=fun{chs ch} h=>by
    rw[e4,h,OA,Cw];simp
   cases hU with
   |@known chs k hc hk b3=>
    have hl:=a9 hc;have a1:chs.length≤1000:=by rw[hc]at hz;simp at hz;exact ln hz rfl
    refine AJ (BR (Cd FW Fw (BM B r1 P'.iH (Jd w) Iz ⟨rfl,hl,AC.nil (FS hl (by rw[AU,Et];exact ln a1 rfl) (A2 ?_))⟩)));refine P'.unlog hc (Ψ:=fun σ'=>EX _ _ _ _ σ' _) fun a8 P3 F3 _=>?_;refine AL (F3.out a5 a4) fun a6 a7=>?_;refine AJ (CP (Bj (CV (AG Ar (BB ⟨⟨_,_,.tup⟩,Fk (x:=.str "known") (!CZ o1) () (!CZ o2) (DJ (Jk (BO ?_)))⟩)))));refine Ba (show(("known":Str)==("made":Str))=false by decide) ?_;refine AJ (CP (Bj (CV (AG Ar (BB ⟨⟨_,_,.tup⟩,Fk (x:=.str "known") (!CZ o1) () (!CZ o2) (DJ (Jk (BO ?_)))⟩)))));refine CQ (show(("known":Str)==("known":Str))=true by decide) ?_;have ek:=P3.at_ .known _ rfl;have d3:=TE (c:=c') k;refine AJ (ib (BM B (by rw[AP ⋯];exact r1) P3.iH (Ss w) Q4 (CV (AG Ar (BB ⟨⟨_,_,.tup⟩,Fk (x:=B1 k.key) (!CZ Z6) () (!CZ aX)
     (Zd7 (R.deeper _ |>.mono (!ld rfl):Ah _ 1).u1 ek (by rw[AU];show c'.known.length≤_;exact ln b3 rfl) (by rw[d3];simpa using hk) ?_)⟩)))))
    rw[ZK Nd.key (fun i=>AV.int (i:Nat)) (fun _ _=>Lk)];refine C4 P3 .known (c':={c' with changes:=chs,known:=BP c'.known k}) (by first|exact Ag _|(show some _=some _;simp)) fun b4 P4 F4 _=>?_
    refine AL (F4.out a6 a7) fun a2 a0=>?_;exact Ax (Ax (Ax ⟨Gq,!A9 _,_,L',b0,by rw[AP ⋯];exact r1,by rw[AP ⋯];exact r2,by rw[AP ⋯];exact r3,P4,F'.trans (F3.trans F4),a2,a0⟩))
   |@loose chs k mm es e hc he b3=>
    have hl:=a9 hc;have a1:chs.length≤1000:=by rw[hc]at hz;simp at hz;exact ln hz rfl
    refine AJ (BR (Cd FW Fw (BM B r1 P'.iH (Jd w) Iz ⟨rfl,hl,AC.nil (FS hl (by rw[AU,Et];exact ln a1 rfl) (A2 ?_))⟩)));refine P'.unlog hc (Ψ:=fun σ'=>EX _ _ _ _ σ' _) fun a8 P3 F3 _=>?_;refine AL (F3.out a5 a4) fun a6 a7=>?_;refine AJ (CP (Bj (CV (AG Ar (BB ⟨⟨_,_,.tup⟩,Fk (x:=.str "edge") (!CZ o1) () (!CZ o2) (DJ (Jk (BO ?_)))⟩)))));refine Ba (show(("edge":Str)==("made":Str))=false by decide) ?_;refine AJ (CP (Bj (CV (AG Ar (BB ⟨⟨_,_,.tup⟩,Fk (x:=.str "edge") (!CZ o1) () (!CZ o2) (DJ (Jk (BO ?_)))⟩)))));refine Ba (show(("edge":Str)==("known":Str))=false by decide) ?_;refine AJ (Bg (Bu B (by rw[AP ⋯];exact r1) P3.iH () (bm w) (R6 w) (Ab (AG Ar (mG B (R.up rfl) P3 he (!b3) fun b4 P4 F4=>?_)))));refine AL (F4.out a6 a7) fun a2 a0=>?_;exact Ax (Ax (Ax ⟨Gq,!A9 _,_,L',b0,by rw[AP ⋯];exact r1,by rw[AP ⋯];exact r2,by rw[AP ⋯];exact r3,P4,F'.trans (F3.trans F4),a2,a0⟩))
   |@edge chs es e fs f d6 k mm g l1 l2 us lk hc O=>
    have hl:=a9 hc;have a1:chs.length≤1000:=by rw[hc]at hz;simp at hz;exact ln hz rfl
    refine AJ (BR (Cd FW Fw (BM B r1 P'.iH (Jd w) Iz ⟨rfl,hl,AC.nil (FS hl (by rw[AU,Et];exact ln a1 rfl) (A2 ?_))⟩)));refine P'.unlog hc (Ψ:=fun σ'=>EX _ _ _ _ σ' _) fun a8 P3 F3 c4=>?_;refine BN (c4 _ _ _ _ rfl) fun c5 c6 c8=>?_;refine AL (F3.out a5 a4) fun a6 a7=>?_;refine AJ (CP (Bj (CV (AG Ar (BB ⟨⟨_,_,.tup⟩,Fk (x:=.str "edge") (!CZ o1) () (!CZ o2) (DJ (Jk (BO ?_)))⟩)))));refine Ba (show(("edge":Str)==("made":Str))=false by decide) ?_;refine AJ (CP (Bj (CV (AG Ar (BB ⟨⟨_,_,.tup⟩,Fk (x:=.str "edge") (!CZ o1) () (!CZ o2) (DJ (Jk (BO ?_)))⟩)))));refine Ba (show(("edge":Str)==("known":Str))=false by decide) ?_;refine AJ (Bg (Bu B (by rw[AP ⋯];exact r1) P3.iH () (bm w) (R6 w) (Ab (AG Ar (xj B (R.up rfl) P3 ⟨O.he,O.hf,O.hm,O.hk,O.hg,O.h1,O.h2,⟨O.O.len,O.O.sz,O.O.m⟩,O.sz,O.ek,O.eg,O.zk,O.z1,O.z2,O.z3⟩ c5 c8 F3 (.inl c6) fun L4 b4 P4 F4=>?_)))));refine AL (F4.out a5 a4) fun a2 a0=>?_;exact Ax (Ax (Ax ⟨Gq,!A9 _,_,L4,b0,by rw[AP ⋯,F4.root];exact r1,by rw[AP ⋯];exact r2,by rw[AP ⋯];exact r3,P4,F'.trans F4,a2,a0⟩))
   |@made chs n nd ns ab ls hc O=>
    have hl:=a9 hc;have a1:chs.length≤1000:=by rw[hc]at hz;simp at hz;exact ln hz rfl
    refine AJ (BR (Cd FW Fw (BM B r1 P'.iH (Jd w) Iz ⟨rfl,hl,AC.nil (FS hl (by rw[AU,Et];exact ln a1 rfl) (A2 ?_))⟩)));refine P'.unlog hc (Ψ:=fun σ'=>EX _ _ _ _ σ' _) fun a8 P3 F3 _=>?_;refine AL (F3.out a5 a4) fun a6 a7=>?_;refine AJ (CP (Bj (CV (AG Ar (BB ⟨⟨_,_,.tup⟩,Fk (x:=.str "made") (!CZ o1) () (!CZ o2) (DJ (Jk (BO ?_)))⟩)))));refine CQ (show(("made":Str)==("made":Str))=true by decide) ?_;refine AJ (Bg (Bu B (by rw[AP ⋯];exact r1) P3.iH () (nZ w) (lU w) (Ab (CV (AG Ar (BB ⟨⟨_,_,.tup⟩,Fk (x:=.int n) (!CZ Z6) () (!CZ aX)
     (mB B (R.deeper _) P3 ⟨O.nodes,O.nn,O.uab,O.nu,O.lots,O.nl,O.U,⟨O.B.n,O.B.w,O.B.d,O.B.m⟩,O.kl,O.kn,O.num,O.us,O.abn,O.za⟩ fun b4 P4 F4=>?_)⟩))))))
    refine AL (F4.out a6 a7) fun a2 a0=>?_;exact Ax (Ax ⟨Gq,!A9 _,_,L',b0,by rw[AP ⋯];exact r1,by rw[AP ⋯];exact r2,by rw[AP ⋯];exact r3,P4,F'.trans (F3.trans F4),a2,a0⟩)
theorem UX{σ A c L many J ms n m Φ}:Vz σ A c L many J ms n m Φ:=@zF _ fQ _ @Zap ((((σ,A),c),(L,many)),(((J,ms),n),(m,Φ)))
variable {σ0:AA}
structure B4(σ0 σ:AA)(l:List (AB×AO)):Prop where
 at_:∀p∈l,σ p.1=some p.2
 nd:(l.map (·.1)).Nodup
 fr:∀p∈l,σ0 p.1=none
 ext:An σ0 σ
theorem B4.nil(σ:AA):B4 σ σ []:=⟨by simp,by simp,by simp,.refl _⟩
variable {l l1 l2:List (AB×AO)} {x y:AO} {a D:AB}
theorem B4.new(O:B4 σ0 σ l)(n:σ D=none):B4 σ0 (upd σ D x) ((D,x)::l):=by
 refine⟨fun p hp=>?_,?_,fun p hp=>?_,O.ext.trans (.new n)⟩
 ·rcases A7.mp hp with rfl|hp
  ·exact Am _ _ _
  ·rw[Au _ _ (fun e=>by have:=O.at_ p hp;rw[e,n]at this;exact As this)];exact O.at_ p hp
 ·rw[CF,FU];refine⟨fun h=>?_,O.nd⟩;refine AI (BD.mp h) fun p hp e=>?_;have:=O.at_ p hp;rw[e,n]at this;exact As this
 ·rcases A7.mp hp with rfl|hp
  ·cases q:σ0 D with
   |none=>rfl
   |some v=>have:=O.ext D (by rw[q];exact Ag _);rw[n,q]at this;exact As this
  ·exact O.fr p hp
theorem B4.set(O:B4 σ0 σ (l1++(a,x)::l2)):B4 σ0 (upd σ a y) ((a,y)::(l1++l2)):=by
 have nd:=O.nd;rw[Cw,CF]at nd;have m:=(List.perm_middle.nodup_iff).mp nd;rw[FU]at m;refine⟨fun p hp=>?_,?_,fun p hp=>?_,fun b hb=>?_⟩
 ·rcases A7.mp hp with rfl|hp
  ·exact Am _ _ _
  ·rw[Au _ _ (fun e=>m.1 (by rw[←e,←Cw];exact BD.mpr ⟨p,hp,rfl⟩))];exact O.at_ p (by simp only[CE,A7]at hp ⊢;rcases hp with h|h<;>simp[h])
 ·rw[CF,Cw,FU];exact m
 ·rcases A7.mp hp with rfl|hp
  ·exact O.fr (a,x) (by simp)
  ·exact O.fr p (by simp only[CE,A7]at hp ⊢;rcases hp with h|h<;>simp[h])
 ·rw[Au _ _ (fun e=>hb (by rw[e];exact O.fr (a,x) (by simp)))];exact O.ext b hb
theorem B4.get(O:B4 σ0 σ l)(h:(a,x)∈l):σ a=some x:=O.at_ (a,x) h
theorem NS{m:Str}{p1 p2:A3}{n:Nat}{C dx xx:AB}{fs:Str→Option AV}{av:AV}{Φ:AW→AA→Prop}(B:Aj)(O:B4 σ0 σ (l1++(dx,.ns n fs)::l2))(hx:(xx,AO.inst C dx)∈l1++l2)(hs:ρ "self"=some (.ref xx))(ok:DL w C m)(hn:n≤100)
  (q:∀σ',B4 σ0 σ' ((dx,.ns (n+1) fun y=>if y=m then some av else fs y)::(l1++l2))→Φ ρ σ')(k0:autoParam (Ck (env.kindOf "self")=true) aR)(k1:autoParam (env.scope.kind=.function) aR):
  AQ A env (Fs (.Attribute (.Name "self" p1) m p2) env) av ρ σ Φ:=
 QA B (AG hs ⟨xx,C,dx,n,fs,n+1,rfl,⟨O.get (by simp only[CE,A7]at hx ⊢;rcases hx with h|h<;>simp[h]),O.get (by simp)⟩,ok,.inl rfl,hn,q _ O.set⟩ k0 k1)
theorem OX.list{m:Str}{p1 p2 p3 a0:A3}{n:Nat}{C dx xx:AB}{fs:Str→Option AV}{Φ:CL→AW→AA→Prop}(B:Aj)(O:B4 σ0 σ ((dx,.ns n fs)::l))(hx:(xx,AO.inst C dx)∈l)(hs:ρ "self"=some (.ref xx))(ok:DL w C m)(hn:n≤100)
  (q:∀D σ',B4 σ0 σ' ((dx,.ns (n+1) fun y=>if y=m then some (.ref D)else fs y)::(D,.list [])::l)→Φ .next ρ σ')(k0:autoParam (Ck (env.kindOf "self")=true) aR)(k1:autoParam (env.scope.kind=.function) aR):
  Em A env (.Assign [.Attribute (.Name "self" p1) m p2] (.List [] p3) a0) ρ σ Φ:=
 BR (Da (AC.nil ⟨!Be _,fun D nD nb=>NS (l1:=[(D,.list [])]) B (O.new nD) (by simp[hx]) hs ok hn (fun σ' O'=>q D σ' O') k0 k1⟩))
theorem OX.dict{m:Str}{p1 p2 p3 a0:A3}{n:Nat}{C dx xx:AB}{fs:Str→Option AV}{Φ:CL→AW→AA→Prop}(z:AO)(hz:∀h a,h.get? a=some {cls:=.type "dict",data:=.dict #[]}→Ee w h a z)(B:Aj)(O:B4 σ0 σ ((dx,.ns n fs)::l))(hx:(xx,AO.inst C dx)∈l)(hs:ρ "self"=some (.ref xx))(ok:DL w C m)(hn:n≤100)
  (q:∀D σ',D≠1→B4 σ0 σ' ((dx,.ns (n+1) fun y=>if y=m then some (.ref D)else fs y)::(D,z)::l)→Φ .next ρ σ')(k0:autoParam (Ck (env.kindOf "self")=true) aR)(k1:autoParam (env.scope.kind=.function) aR):
  Em A env (.Assign [.Attribute (.Name "self" p1) m p2] (.Dict [] [] p3) a0) ρ σ Φ:=
 BR (TN B hz fun D nD nb n1=>NS (l1:=[(D,z)]) B (O.new nD) (by simp[hx]) hs ok hn (fun σ' O'=>q D σ' n1 O') k0 k1)
theorem OX.int{m:Str}{p1 p2 p3 a0:A3}{n k:Nat}{i:Int}{C dx xx:AB}{fs:Str→Option AV}{Φ:CL→AW→AA→Prop}(B:Aj)(O:B4 σ0 σ ((dx,.ns n fs)::l))(hx:(xx,AO.inst C dx)∈l)(hs:ρ "self"=some (.ref xx))(ok:DL w C m)(hn:n≤100)
  (q:∀σ',B4 σ0 σ' ((dx,.ns (n+1) fun y=>if y=m then some (.int i)else fs y)::l)→Φ .next ρ σ')(k0:autoParam (Ck (env.kindOf "self")=true) aR)(k1:autoParam (env.scope.kind=.function) aR):
  Em A env (.Assign [.Attribute (.Name "self" p1) m p2] (.Constant (.int i) k p3) a0) ρ σ Φ:=
 BR (BB (NS (l1:=[]) B O (by simpa using hx) hs ok hn (fun σ' O'=>q σ' O') k0 k1))
abbrev Vi(N U W D:AB):Str→Option AV:=fun y=>if y=("depths":Str)then some (.ref D)else if y=("weights":Str)then some (.ref W)else if y=("numbers":Str)then some (.ref U)else if y=("nodes":Str)then some (.ref N)else none
theorem wO(B:Aj)(R:Ah A 1){dx x:AB}(O:B4 σ0 σ ((dx,.ns 0 fun zz=>none)::l))(m:(x,AO.inst 174 dx)∈l)
  (q:∀N U W D σ',U≠1→B4 σ0 σ' ((dx,.ns 4 (Vi N U W D))::(D,.list [])::(W,.list [])::(U,.dictT [])::(N,.list [])::l)→Φ .none σ'):
  EA A (.ref 86) [.ref x] σ Φ:=by
 refine EA.def (F:=(lL w)) (names:=["self"]) B R rfl (fun Lf=>?_) (FL fun zz=>rfl) rfl ∅
 ·refine AJ (OX.list (xx:=x) B O m () (n9 w) (!ld rfl) fun N a0 O1=>?_);refine AJ (OX.dict (.dictT []) (UW w) (xx:=x) B O1 (by simp[m]) () (vm w) (!ld rfl) fun U a1 n1 O2=>?_);refine AJ (OX.list (xx:=x) B O2 (by simp[m]) () (lS w) (!ld rfl) fun W a2 O3=>?_);refine AJ (OX.list (xx:=x) B O3 (by simp[m]) () (pr w) (!ld rfl) fun D n O4=>?_);exact Ax (q N U W D n n1 O4)
abbrev Vy(N U W:AB):Str→Option AV:=fun y=>if y=("merged":Str)then some (.ref W)else if y=("lots":Str)then some (.ref U)else if y=("above":Str)then some (.ref N)else none
theorem uw(B:Aj)(R:Ah A 1){dx x:AB}(O:B4 σ0 σ ((dx,.ns 0 fun zz=>none)::l))(n:(x,AO.inst 256 dx)∈l)
  (q:∀N U W σ',B4 σ0 σ' ((dx,.ns 3 (Vy N U W))::(W,.list [])::(U,.list [])::(N,.list [])::l)→Φ .none σ'):
  EA A (.ref 192) [.ref x] σ Φ:=by
 refine EA.def (F:=(sG w)) (names:=["self"]) B R rfl (fun Lf=>?_) (FL fun zz=>rfl) rfl ∅
 ·refine AJ (OX.list (xx:=x) B O n () (qy w) (!ld rfl) fun N a0 O1=>?_);refine AJ (OX.list (xx:=x) B O1 (by simp[n]) () (wt w) (!ld rfl) fun U a1 O2=>?_);refine AJ (OX.list (xx:=x) B O2 (by simp[n]) () (mS w) (!ld rfl) fun W m O3=>?_);exact Ax (q N U W m O3)
theorem nR(w:AD):Co (KK w) Bk "Bank"=some (some (.ref 174)):=∅
theorem qW(w:AD):Co (KK w) Bk "Unions"=some (some (.ref 256)):=∅
theorem zo(w:AD):Nn (KK w) (.ref 174)=true:=∅
theorem ud(w:AD):Nn (KK w) (.ref 256)=true:=∅
theorem qj(w:AD):Nn (KK w) (.ref 460)=true:=∅
theorem wJ(w:AD):Nn (KK w) (.ref 517)=true:=∅
end
section
variable {σ σ' σ'' τ τ' σ0:AA} {A:AX} {env:Af} {ρ:AW} {c c' c0:HS} {L L' L0:AZ} {l l1 l2:List (AB×AO)} {x y:AO} {a D:AB}
theorem B4.perm(O:B4 σ0 σ l)(p:l.Perm n):B4 σ0 σ n:=
 ⟨fun q m=>O.at_ q (p.mem_iff.mpr m),((p.map _).nodup_iff).mp O.nd,fun q m=>O.fr q (p.mem_iff.mpr m),O.ext⟩
theorem B4.inst{C dx xx:AB}(O:B4 σ0 σ l)(m:σ xx=none)(n2:σ dx=none)(n:xx≠dx):B4 σ0 (upd (upd σ dx (.ns 0 fun zz=>none)) xx (.inst C dx)) ((dx,.ns 0 fun zz=>none)::(xx,.inst C dx)::l):=
 ((O.new n2).new (by rw[Au _ _ n];exact m)).perm (jq _ _ _)
abbrev Sz(n m N U W D:AB):List (AB×AO):=[(m,.ns 4 (Vi N U W D)),(D,.list []),(W,.list []),(U,.dictT []),(N,.list []),(n,.inst 174 m)]
abbrev XJ(n m N U W:AB):List (AB×AO):=[(m,.ns 3 (Vy N U W)),(W,.list []),(U,.list []),(N,.list []),(n,.inst 256 m)]
theorem Zdd(B:Aj)(R:Ah A 2)(O:B4 σ0 σ l)
  (q:∀n m N U W D σ',U≠1→B4 σ0 σ' (Sz n m N U W D++l)→Φ (.ref n) σ')(hx:autoParam (env.kindOf "Bank"=some .globalImplicit) aR)(hk:autoParam (env.scope.kind=.function) aR)(hg:autoParam (env.globals=Bk) aR):EV A env (.Call (.Name "Bank" p) [] [] a0) ρ σ Φ:=
 Lg B (NP B (nR w) ⟨_,.cl (zo w),AC.nil (TQ B (vN w) R fun A' R' xx dx n1 zz n2 zz ne=>wO B R' (O.inst n1 n2 ne) (.head _) fun N U W D σ' h1 O'=>⟨rfl,q xx dx N U W D σ' h1 O'⟩)⟩ hx hk hg ⋯) ()
theorem Ze7(B:Aj)(R:Ah A 2)(O:B4 σ0 σ l)
  (q:∀n m N U W σ',B4 σ0 σ' (XJ n m N U W++l)→Φ (.ref n) σ')(hx:autoParam (env.kindOf "Unions"=some .globalImplicit) aR)(hk:autoParam (env.scope.kind=.function) aR)(hg:autoParam (env.globals=Bk) aR):EV A env (.Call (.Name "Unions" p) [] [] a0) ρ σ Φ:=
 Lg B (NP B (qW w) ⟨_,.cl (ud w),AC.nil (TQ B (og w) R fun A' R' xx dx n1 zz n2 zz ne=>uw B R' (O.inst n1 n2 ne) (.head _) fun N U W σ' O'=>⟨rfl,q xx dx N U W σ' O'⟩)⟩ hx hk hg ⋯) ()
abbrev hs0:HS:=⟨[],[],[],[],[],[],[],[],[],[],[],[],[],[],0,0⟩
theorem B4.rep(O:B4 σ0 σ l)(m:Slot→Nat)(h:∀s x,Aw c L s=some x→l[m s]? =some (L s,x))(hi:∀s t,Aw c L s≠none→Aw c L t≠none→m s=m t→s=t)
  (n1:L .numbers≠1∧L .known≠1∧L .above≠1):AS σ L c:=by
 refine⟨fun s x e=>O.at_ (L s,x) (DE (h s x e)),fun s t hs ht e=>?_,n1⟩;refine AY (ER.mp hs) fun x hx=>?_;refine AY (ER.mp ht) fun y hy=>?_;refine AY (BY.mp (h s x hx)) fun h1 e1=>?_;refine AY (BY.mp (h t y hy)) fun h2 e2=>?_;refine hi s t hs ht ?_;have nd:=QY.mp O.nd;have n:(l.map (·.1))[m s]'(by simpa using h1)=L s:=by rw[List.getElem_map,e1]
 have v2:(l.map (·.1))[m t]'(by simpa using h2)=L t:=by rw[List.getElem_map,e2]
 rcases Nat.lt_trichotomy (m s) (m t)with g|g|g
 ·exact absurd (n.trans (e.trans v2.symm)) (nd _ _ _ _ g)
 ·exact g
 ·exact absurd (v2.trans (e.symm.trans n.symm)) (nd _ _ _ _ g)
theorem yu(B:Aj)(R:Ah A 3){dx xx:AB}(O:B4 σ0 σ ((dx,.ns 0 fun zz=>none)::l))(hx:(xx,AO.inst 460 dx)∈l){Φ:AV→AA→Prop}
  (q:∀bk m bN bU bW bD un n uN uU uW ed fo kn ab wa σ',bU≠1→kn≠1→ab≠1→
   B4 σ0 σ' ((dx,.ns 8 fun y=>if y=("backs":Str)then some (.int 0)else if y=("waiting":Str)then some (.ref wa)else if y=("above":Str)then some (.ref ab)else if y=("known":Str)then some (.ref kn)else if y=("forest":Str)then some (.ref fo)else if y=("edges":Str)then some (.ref ed)else if y=("unions":Str)then some (.ref un)else if y=("bank":Str)then some (.ref bk)else none)::
    (wa,.list [])::(ab,.dictI [])::(kn,.dictT [])::(fo,.list [])::(ed,.list [])::(XJ un n uN uU uW++(Sz bk m bN bU bW bD++l)))→Φ .none σ'):
  EA A (.ref 274) [.ref xx] σ Φ:=by
 refine EA.def (F:=(qd w)) (names:=["self"]) B R rfl (fun Lf=>?_) (FL fun zz=>rfl) rfl ∅
 ·refine AJ (BR (Zdd B (R.deeper _) O fun bk m bN bU bW bD a2 h1 O1=>NS (xx:=xx) (l1:=Sz bk m bN bU bW bD) (l2:=l) B O1 (Ek _ hx) () (ro w) (!ld rfl) fun a3 O2=>?_));refine AJ (BR (Ze7 B (R.deeper _) O2 fun un n uN uU uW a9 O3=>NS (xx:=xx) (l1:=XJ un n uN uU uW) (l2:=Sz bk m bN bU bW bD++l) B O3 (Ek _ (Ek _ hx)) () (oj w) (!ld rfl) fun b0 O4=>?_));refine AJ (OX.list (xx:=xx) B O4 (Ek _ (Ek _ hx)) () (wB w) (!ld rfl) fun ed a7 O5=>?_);refine AJ (OX.list (xx:=xx) B O5 (.tail _ (Ek _ (Ek _ hx))) () (mC w) (!ld rfl) fun fo a5 O6=>?_);refine AJ (OX.dict (.dictT []) (UW w) (xx:=xx) B O6 (.tail _ (.tail _ (Ek _ (Ek _ hx)))) () (qw w) (!ld rfl) fun kn a6 h7 O7=>?_);refine AJ (OX.dict (.dictI []) (W7 w) (xx:=xx) B O7 (.tail _ (.tail _ (.tail _ (Ek _ (Ek _ hx))))) () (rD w) (!ld rfl) fun ab a4 h8 O8=>?_);refine AJ (OX.list (xx:=xx) B O8 (.tail _ (.tail _ (.tail _ (.tail _ (Ek _ (Ek _ hx)))))) () (fS w) (!ld rfl) fun wa a8 O9=>?_);refine AJ (OX.int (xx:=xx) B O9 (.tail _ (.tail _ (.tail _ (.tail _ (.tail _ (Ek _ (Ek _ hx))))))) () (ez w) (!ld rfl) fun a0 a1=>?_);exact Ax (q bk m bN bU bW bD un n uN uU uW ed fo kn ab wa a0 h1 h7 h8 a1)
theorem B4.finish(O:B4 σ0 σ l)(m:Slot→Nat)(h:∀s x,Aw c L s=some x→l[m s]? =some (L s,x))(hi:∀s t,Aw c L s≠none→Aw c L t≠none→m s=m t→s=t)
  (n1:L .numbers≠1∧L .known≠1∧L .above≠1){X:Prop}(q:AS σ L c→(∀a,A8 c L a→σ0 a=none)→X):X:=
 q (O.rep m h hi n1) fun a n=>AI n fun s hs e=>by
  refine AY (ER.mp hs) fun z hz=>?_;rw[←e];exact O.fr (L s,z) (DE (h s z hz))
theorem ww{y:Str}:DW hs0 L y=if y=("made":Str)then some (.int 0)else if y=("marks":Str)then some (.ref (L .marks))else if y=("changes":Str)then some (.ref (L .changes))else if y=("backs":Str)then some (.int 0)else if y=("waiting":Str)then some (.ref (L .waiting))else if y=("above":Str)then some (.ref (L .above))else if y=("known":Str)then some (.ref (L .known))else if y=("forest":Str)then some (.ref (L .forest))else if y=("edges":Str)then some (.ref (L .edges))else if y=("unions":Str)then some (.ref (L .un))else if y=("bank":Str)then some (.ref (L .bk))else none:=V8 (l:=hP hs0 L) (show hN.Nodup by decide+kernel)
theorem tZ{y:Str}:G9 L y=Vi (L .nodes) (L .numbers) (L .wts) (L .dps) y:=V8 (l:=[("nodes",.ref (L .nodes)),("numbers",.ref (L .numbers)),("weights",.ref (L .wts)),("depths",.ref (L .dps))]) (show(["nodes","numbers","weights","depths"]:List Str).Nodup by decide+kernel)
theorem sT{y:Str}:Ix L y=Vy (L .uab) (L .ulots) (L .merged) y:=V8 (l:=[("above",.ref (L .uab)),("lots",.ref (L .ulots)),("merged",.ref (L .merged))]) (show(["above","lots","merged"]:List Str).Nodup by decide+kernel)
theorem qO(B:Aj)(R:Ah A 5)(q:∀L σ',An σ σ'→AS σ' L hs0→(∀a,A8 hs0 L a→σ a=none)→Φ (.ref (L .hp)) σ'):AF A (.ref 460) [] σ Φ:=by
 refine TQ B (rW w) R fun A' R' xx dx n1 zz n2 zz ne=>?_;have O:=(B4.nil σ).inst (C:=460) n1 n2 ne;have I0:Du (upd (upd σ dx (.ns 0 fun zz=>none)) xx (.inst 460 dx)) xx 460 dx 0 (fun zz=>none):=⟨O.get (by simp),O.get (!Dq)⟩;refine Xz (F:=(bg w)) (names:=["self"]) B R' rfl (fun Lf=>?_) (FL fun zz=>rfl) rfl ∅
 ·refine Cs.cons (iG (V4 B (bg w) (zL w) (xO w) () () () () () () () () I0
     (AC.nil ?_) () ()))
  refine yu (xx:=xx) B (R'.deeper _) O (!Dq) fun bk a1 bN bU bW bD un a2 uN uU uW ed fo kn ab wa a4 h1 h2 h3 O1=>?_;refine Cs.cons (.of (OX.list (xx:=xx) B O1 (by simp) () (rC w) (!ld rfl) fun ch a5 O2=>?_));refine Cs.cons (.of (OX.list (xx:=xx) B O2 (by simp) () (kY w) (!ld rfl) fun mk a6 O3=>?_));refine Cs.cons (.of (OX.int (xx:=xx) B O3 (by simp) () (U0 w) (!ld rfl) fun a3 O4=>?_));refine Cs.of (Ax ⟨rfl,?_⟩);let L:AZ:=fun s=>match s with
   |.hp=>xx|.hdx=>dx|.bk=>bk|.bdx=>a1|.un=>un|.udx=>a2|.nodes=>bN|.numbers=>bU|.wts=>bW|.dps=>bD|.uab=>uN|.ulots=>uU|.merged=>uW
   |.edges=>ed|.forest=>fo|.known=>kn|.above=>ab|.waiting=>wa|.changes=>ch|.marks=>mk|_=>0
  let a0:Slot→Nat:=fun s=>match s with
   |.hdx=>0|.marks=>1|.changes=>2|.waiting=>3|.above=>4|.known=>5|.forest=>6|.edges=>7|.udx=>8|.merged=>9|.ulots=>10|.uab=>11|.un=>12|.bdx=>13|.dps=>14|.wts=>15|.numbers=>16|.nodes=>17|.bk=>18|.hp=>19|_=>20
  refine O4.finish (L:=L) a0 (fun s x e=>?_) (fun s t hs ht e=>?_) ⟨h1,h2,h3⟩ fun P fr=>q L a3 O4.ext P fr
  ·cases s<;>first|(cases e;rfl)|(exfalso;change none=some x at e;cases e)|skip
   ·rw[←Ao e];refine congrArg (fun f=>some (dx,AO.ns 11 f)) (funext fun y=>?_);exact(ww (L:=L)).symm
   ·rw[←Ao e];refine congrArg (fun f=>some (a1,AO.ns 4 f)) (funext fun y=>?_);exact(tZ (L:=L)).symm
   ·rw[←Ao e];refine congrArg (fun f=>some (a2,AO.ns 3 f)) (funext fun y=>?_);exact(sT (L:=L)).symm
  ·let m:Nat→Slot:=fun n=>([.hdx,.marks,.changes,.waiting,.above,.known,.forest,.edges,.udx,.merged,.ulots,.uab,.un,.bdx,.dps,.wts,.numbers,.nodes,.bk]:List Slot)[n]?.getD .hp;have key:∀s,Aw hs0 L s≠none→m (a0 s)=s:=fun s hs=>by cases s<;>first|rfl|exact absurd rfl hs
   exact(key s hs).symm.trans ((congrArg m e).trans (key t ht))
end
section
abbrev KN:List Value:=[.type "Exception",.type "BaseException",.type "object"]
theorem MM(w:AD):∃nm q bs m sn sub ab n dd k0 k1 k2 k3 k5,(KK w).lookup 47=some (excClassObj nm q 47 46 bs KN m sn sub ab n dd k0 k1 k2 k3 k5 "Exception.__new__"):=⟨_,_,_,_,_,_,_,_,_,_,_,_,_,_,rfl⟩
theorem Zc0(w:AD):QN (KK w) (.ref 47) "__init__"=some (some (.ref 37)):=∅
theorem kx(w:AD):typeIn (KK w) (.ref 37)=some (.type "function"):=∅
section
variable {A:AX} {R:Ju→AN→Prop} {h:A5} {g:Array Gw} {d:Iw} {t:Nat} {os:Gu}
abbrev D9(a:AB):C6:={cls:=.ref 47,data:=.fields #[.ref a,.none,.none,.none,.bool false,.none]}
abbrev J7(vs:List Value):C6:={cls:=.type "tuple",data:=.seq vs.toArray}
def XR(A:AX)(R:Ju→AN→Prop)(h:A5)(g:Array Gw)(d:Iw)(t:Nat)(os:Gu)(n:Nat)(v:Value):Prop:=∀(X:(KK w).In h)(Rm:Ah A (n+1))(k:∀m,Ah m n→FI (Ae pg w) m (.call (.ref 37) ⟨[.ref (h.objs.size+1),v],[]⟩) (InitBack (h.objs.size+1) R) ⟨(h.push (J7 [v])).push (D9 h.objs.size),g,d,t,os⟩),FI (Ae pg w) A (.call (.ref 47) ⟨[v],[]⟩) R ⟨h,g,d,t,os⟩
def co:(((AX×(Ju→AN→Prop))×A5)×(Array Gw×Iw))×((Nat×Gu)×(Nat×Value))→Prop:=fun t=>XR t.1.1.1.1 t.1.1.1.2 t.1.1.2 t.1.2.1 t.1.2.2 t.2.1.1 t.2.1.2 t.2.2.1 t.2.2.2
def JW:=zE co (((({},(fun _ _=>True)),BV),(#[],{})),((0,BV),(0,BV)))
def uj:=JW.1.1.1.1
def ux:=JW.1.1.1.2
def HK:=JW.1.1.2
def Uc:=JW.1.2.1
def Wz:=JW.1.2.2
def Wj:=JW.2.1.1
def XF:=JW.2.1.2
def oJ:=JW.2.2.1
def Mt:=JW.2.2.2
theorem tm:XR uj ux HK Uc Wz Wj XF oJ Mt:=fun X Rm k=>by
 refine Mx (MM w) fun nm q bs a4 sn sub ab a5 dd k0 k1 k2 k3 k5 a3=>?_;have n:=X _ _ a3;have F:=Zfw;have f1:=tc_lookup;have f2:=tc_bind (.ref 47);have hT:(⟨HK,Uc,Wz,Wj,XF⟩:AN).TypeIs (.ref 47) "type":=⟨_,n,rfl⟩;refine UJ ?_;show AR _ _ (callAny (.ref 47) _) _ _ _
 repeat (any_goals (first|assumption|with_reducible refine OC n ?_|wp_step))
 refine⟨rfl,?_⟩;refine codeAny_call_builtin_at (Yn _ (by decide+kernel)) entry_typeCall (wpAny_check_type_call_sub n ?_)
 repeat (first|with_reducible refine OC n ?_|with_reducible refine wpAny_madeBy_exc n ?_|wp_step)
 refine codeAny_call_builtin_code (Yn _ F.quiet) (wpAny_check_new_sub F n ?_);refine codeAny_exc_new_sub F n ?_ (by rw[CJ];exact Cz _);show AR _ _ _ _ _ _;have a1:=BC (D9 HK.objs.size) (BC (J7 [Mt]) n);have m:(KK w).In ((HK.push (J7 [Mt])).push (D9 HK.objs.size)):=fun a o e=>BC _ (BC _ (X a o e));have a0:((HK.push (J7 [Mt])).push (D9 HK.objs.size)).get? (HK.objs.size+1)=some (D9 HK.objs.size):=by heap_get
 have a2:(Ft 47::KN).contains (.ref 47)=true:=by exact rfl
 unfold UL
 repeat (first|with_reducible refine OC a0 ?_|wp_step)
 show AR _ _ (isSubtype (.ref 47) (.ref 47)) _ _ ⟨(HK.push (J7 [Mt])).push (D9 HK.objs.size),Uc,Wz,Wj,XF⟩;refine wpAny_isSubtype_exc a1 ?_;rw[a2]
 repeat (first|with_reducible refine OC a0 ?_|wp_step)
 show AR _ _ (Nz (.ref 47) _) _ _ _;refine jf m (Zc0 w) _ _ _ _ (fun zz zz e=>e) ?_;refine CI (AE (bind_fn m _ (kx w) _ _ _ _ (fun zz zz e=>e) ?_));show AR _ _ (call (.ref 37) [.ref (HK.objs.size+1),Mt]>>=fun x=>Pure.pure (some x)) _ _ _;refine AE (Kg (N4 (k _ Rm.make) fun r s' hr=>?_));cases r with
 |error e=>exact hr
 |ok fl=>
  cases fl with
  |ret u=>
   obtain⟨rfl,hr⟩:=hr;exact Ad (Ad hr)
  |_=>exact hr.elim
theorem wq{A R h g d t os n v}:XR A R h g d t os n v:=@zF _ co _ @tm ((((A,R),h),(g,d)),((t,os),(n,v)))
end
theorem ZN:Nz (.type "wrapper_descriptor") "__get__"=pure (some (.builtin "wrapper_descriptor.__get__")):=by rw[Yo,Yp];kernel_rfl
theorem Zcg:N5 "wrapper_descriptor" "__get__" "wrapper_descriptor.__get__":=.of (owner:="wrapper_descriptor") (n:="__get__") ZN (by decide+kernel) (by decide+kernel) (by decide+kernel)
 (by first|exact .inl (by decide+kernel)|exact .inr (by decide+kernel)) (by rw[Yq];kernel_rfl)
theorem uA:entryFor table "wrapper_descriptor.__get__"=some Builtin.«wrapper_descriptor.__get__»:=entryFor_of_tree ∅
theorem Zab(a b c:Value):Qb "wrapper_descriptor.__get__" ⟨[a,b,c],[]⟩:=by unfold Qb;kernel_rfl
theorem hF:No (.builtin "Exception.__init__")=pure (.type "wrapper_descriptor"):=∅
end
section
section
variable {M:Model} {A:AX} {E:Value→AN→Prop} {h:A5} {g:Array Gw} {d:Iw} {t:Nat} {os:Gu} {x:AB} {ox:C6} {odx:Option C6}
theorem xK(w:AD):mroIn (KK w) 47 (.type "Exception")=some true:=∅
theorem vi(X:(KK w).In h)(hx:h.get? x=some ox)(m:ox.cls=.ref 47)
  (hq:Q (.done (.ret (.ref h.objs.size))) ⟨h.push {cls:=.type "method-wrapper",data:=.fields #[.builtin "Exception.__init__",.ref x]},g,d,t,os⟩):
  AR (Ae pg w) A (Builtin.«wrapper_descriptor.__get__» ⟨[.builtin "Exception.__init__",.ref x,.ref 47],[]⟩) Q E ⟨h,g,d,t,os⟩:=by
 unfold Builtin.«wrapper_descriptor.__get__»
 repeat wp_step
 rw[show ".".intercalate ("Exception.__init__".cutAt '.').dropLast="Exception" by decide+kernel,m];refine Yj X (xK w) _ _ _ _ (fun n n e=>e) ?_
 repeat wp_step
 exact hq
theorem wH:builtinKind "wrapper_descriptor.__get__"=some .slot:=by decide+kernel
theorem tK:splitId "wrapper_descriptor.__get__"=some ("wrapper_descriptor","__get__"):=by decide+kernel
def UT(A:AX)(E:Value→AN→Prop)(h:A5)(g:Array Gw)(d:Iw)(t:Nat)(os:Gu)(x:AB)(ox:C6)(m:AB)(l₀:List Value)(l:List Value)(Q:PySem.Fin→AN→Prop)(tk:Tok):Prop:=∀(a0:h.get? m=some {cls:=.type "super",dict:=none,data:=.fields #[.ref 47,.ref x,.ref 47],slots:=#[]})(n:Kl (Ae pg w) h (opaqueClassAbove (.ref 47)) none)(hC:Kl (Ae pg w) h (mroOf (.ref 47)) l₀)(hl:(l₀.dropWhile (· != .ref 47)).drop 1=l)(X:(KK w).In h)(hf:alongIn (KK w) "__init__" l=some (some (.builtin "Exception.__init__")))(hx:h.get? x=some ox)(hc:ox.cls=.ref 47)(a1:x≠47)(hq:Q (.done (.ret (.ref h.objs.size))) ⟨h.push {cls:=.type "method-wrapper",data:=.fields #[.builtin "Exception.__init__",.ref x]},g,d,t,os⟩),AR (Ae pg w) A (Builtin.«super.__getattribute__» ⟨[.ref m,.str "__init__" tk],[]⟩) Q E ⟨h,g,d,t,os⟩
def gc:(((AX×(Value→AN→Prop))×(A5×Array Gw))×((Iw×Nat)×Gu))×(((AB×C6)×(AB×List Value))×((List Value×(PySem.Fin→AN→Prop))×Tok))→Prop:=fun t=>UT t.1.1.1.1 t.1.1.1.2 t.1.1.2.1 t.1.1.2.2 t.1.2.1.1 t.1.2.1.2 t.1.2.2 t.2.1.1.1 t.2.1.1.2 t.2.1.2.1 t.2.1.2.2 t.2.2.1.1 t.2.2.1.2 t.2.2.2
def GB:=zE gc (((({},(fun _ _=>True)),(BV,#[])),(({},0),BV)),(((0,BV),(0,[])),(([],(fun _ _=>True)),BV)))
def wA:=GB.1.1.1.1
def pT:=GB.1.1.1.2
def du:=GB.1.1.2.1
def uf:=GB.1.1.2.2
def t5:=GB.1.2.1.1
def tV:=GB.1.2.1.2
def wj:=GB.1.2.2
def JF:=GB.2.1.1.1
def vV:=GB.2.1.1.2
def zO:=GB.2.1.2.1
def vg:=GB.2.1.2.2
def vE:=GB.2.2.1.1
def uo:=GB.2.2.1.2
def vR:=GB.2.2.2
theorem v9:UT wA pT du uf t5 tV wj JF vV zO vg vE uo vR:=fun n a0 hC hl X hf hx hc a2 hq=>by
 have a4:=ZN;have a1:(Ft JF==Ft 47)=false:=by simp[a2]
 have a3:=hF;have hn:(("__init__":Str)==("__class__":Str))=false:=by decide
 have m:({cls:=.type "super",dict:=none,data:=.fields #[.ref 47,.ref JF,.ref 47],slots:=#[]}:C6).data=.fields #[.ref 47,.ref JF,.ref 47]:=rfl;have f0:(#[.ref 47,.ref JF,.ref 47]:Array Value)[0]? =some (.ref 47):=rfl;have f1:(#[.ref 47,.ref JF,.ref 47]:Array Value)[1]? =some (.ref JF):=rfl;have f2:(#[.ref 47,.ref JF,.ref 47]:Array Value)[2]? =some (.ref 47):=rfl;unfold Builtin.«super.__getattribute__»
 repeat (first
  |(with_reducible refine Kj n m f0 ?_)|(with_reducible refine Kj n m f1 ?_)|(with_reducible refine Kj n m f2 ?_)
  |(with_reducible refine ks_wpAny_notOpaque a0 ?_)
  |(with_reducible refine Looks.at hC ?_;rw[hl])
  |(refine ks_forIn_along X (fun zz zz=>rfl) rfl ?_ hf)
  |(with_reducible refine⟨_,rfl,?_⟩)
  |(simp only[hn,a1,jv,HU,if_false])
  |wp_step
  |dsimp only)
 have hi:Kl (Ae pg w) du (UL (.builtin "Exception.__init__") (.type "wrapper_descriptor")) true:=(Looks.of_pure hF).andThen (Looks.of_pure (by rw[Yq];kernel_rfl));refine jp (id:="wrapper_descriptor.__get__") (b:=Builtin.«wrapper_descriptor.__get__») Zcg.plain uA ?_;refine @check_slot (Ae pg w) _ _ _ "wrapper_descriptor.__get__" "wrapper_descriptor" "__get__" (.builtin "Exception.__init__") [.ref JF,.ref 47] [] _ wH tK hi (Zab _ _ _) ?_;refine vi X hx hc ?_;show AR _ _ _ _ _ _
 repeat wp_step
 exact hq
theorem qo{A E h g d t os x ox m l₀ l Q tk}:UT A E h g d t os x ox m l₀ l Q tk:=@zF _ gc _ @v9 ((((A,E),(h,g)),((d,t),os)),(((x,ox),(m,l₀)),((l,Q),tk)))
theorem yT
  (n:h.get? so=some {cls:=.type "super",dict:=none,data:=.fields #[.ref 47,.ref x,.ref 47],slots:=#[]})(a1:Kl (Ae pg w) h (opaqueClassAbove (.ref 47)) none)
  (hC:Kl (Ae pg w) h (mroOf (.ref 47)) l₀)(hl:(l₀.dropWhile (· != .ref 47)).drop 1=l)(X:(KK w).In h)
  (hf:alongIn (KK w) "__init__" l=some (some (.builtin "Exception.__init__")))(hx:h.get? x=some ox)(hc:ox.cls=.ref 47)(a2:x≠47)
  (hq:Q (.ref h.objs.size,[]) ⟨h.push {cls:=.type "method-wrapper",data:=.fields #[.builtin "Exception.__init__",.ref x]},g,d,t+1,os⟩):
  AR (Ae pg w) A (GZ (.ref so) "__init__" pl) Q E ⟨h,g,d,t,os⟩:=by
 have m:=j2.lookup;have a0:=PySem.F.ks_canon_super_ga;have hT:∀t',(⟨h,g,d,t',os⟩:AN).TypeIs (.ref so) "super":=fun zz=>⟨_,n,rfl⟩;unfold GZ;refine AE (UB (hT _) m ?_);show AR _ _ (if(Manifest.canonical "super.__getattribute__" != "object.__getattribute__")=true then _ else _) _ _ _;rw[if_pos a0];unfold Lv getAttrBy;refine AE (AE (i6 (CI (AE (Ye (hT _) (AE (Lx m ?_)))))));show AR _ _ (getAttrByItsOwn (.ref so) (.str "__init__" t) (.type "super") (.builtin "super.__getattribute__") true false) _ _ _;unfold getAttrByItsOwn hookBefore callGetattribute boundAndCalled;refine AE (Lx (show(if onTheHeap (.type "super")then Nz (.type "super") "__getattr__" else pure none)=pure none from rfl) ?_);refine AE (ju (CI ?_));show AR _ _ (bindSpecial (.builtin "super.__getattribute__") (.ref so)>>=_) _ _ _;refine AE (Lx (j2.bind _) ?_);refine AT (Q:=fun v s'=>v=.ref h.objs.size∧s'=⟨h.push {cls:=.type "method-wrapper",data:=.fields #[.builtin "Exception.__init__",.ref x]},g,d,t+1,os⟩) (E:=fun zz zz=>False)
  (HT j2 (hT _) PySem.F.ks_entry_super_ga (qo n a1 hC hl X hf hx hc a2 ⟨_,rfl,rfl,rfl⟩) (PySem.F.ks_gaArgs_super _ _)) (fun v s' hv=>?_) fun zz zz z=>z.elim
 obtain⟨rfl,rfl⟩:=hv;exact Ad (Ad hq)
end
end
section
section
variable {M:Model} {A:AX} {E:Value→AN→Prop} {h:A5} {g:Array Gw} {d:Iw} {t:Nat} {os:Gu} {x mw a:AB} {ox:C6} {v:Value}
abbrev Mo(x:AB):C6:={cls:=.type "method-wrapper",data:=.fields #[.builtin "Exception.__init__",.ref x]}
theorem vy(n:h.get? x=some (D9 a))(k:∀h',(∀b o,b≠x→h.get? b=some o→h'.get? b=some o)→h'.get? x=some (D9 h.objs.size)→Q (.done (.ret .none)) ⟨h',g,d,t,os⟩):
  AR (Ae pg w) A (Builtin.«BaseException.__init__» ⟨[.ref x,v],[]⟩) Q E ⟨h,g,d,t,os⟩:=by
 have m:=BC (J7 [v]) n;unfold Builtin.«BaseException.__init__»
 repeat wp_step
 refine k _ (fun b o hb e=>?_) ?_
 ·rw[HV _ _ (Ne.symm hb)];exact BC _ e
 ·exact GY _ m rfl
theorem yv(X:(KK w).In h)(hx:h.get? x=some (D9 a))(hq:Q Unit.unit ⟨h,g,d,t,os⟩):AR (Ae pg w) A (j3 "Exception.__init__" ⟨[.ref x,v],[]⟩) Q E ⟨h,g,d,t,os⟩:=by
 refine Mx (MM w) fun nm q bs a0 sn sub ab a1 dd k0 k1 k2 k3 k5 m=>?_;have n:=X _ _ m;unfold j3
 repeat (first|with_reducible refine Ys n ?_|with_reducible refine OC n ?_|(with_reducible refine wpAny_onRaise ?_)|wp_step)
 exact hq
theorem m7(X:(KK w).In h)(hm:h.get? mw=some (Mo x))(m:h.get? x=some (D9 a))
  (k:∀h',(∀b o,b≠x→h.get? b=some o→h'.get? b=some o)→h'.get? x=some (D9 h.objs.size)→Q .none ⟨h',g,d,t,os⟩):
  AR (Ae pg w) A (call (.ref mw) [v]) Q E ⟨h,g,d,t,os⟩:=by
 have F:=Zfw;refine Kg (UJ ?_);show AR _ A.in1 (callAny (.ref mw) ⟨[v],[]⟩) _ _ _;unfold callAny;refine AE (Ys hm ?_);simp -iota only[show(El "method-wrapper"==El "method"||El "method-wrapper"==El "builtin_function_or_method"||El "method-wrapper"==El "method-wrapper")=true by decide,if_true];show AR _ _ (j3 "Exception.__init__" ⟨[.ref x,v],[]⟩>>=fun zz=>_) _ _ _;refine AE (yv X m ?_);refine AE (Ad (Ad ⟨Yn _ (by decide+kernel),?_⟩));refine N7 F.initEntry (vy m fun h' n k2=>?_);exact k h' n k2
theorem Zay(n:args.any (·.1)=false)
  (h:AR M A (evalArgs (.ref mw) true args []) (fun xx s₁=>s₁.heap.get? mw=some (Mo x)∧AR M A (call (.ref mw) xx.pos xx.kw) Q E s₁) E s):AR M A (ES a1 (.ref mw) [] args []) Q E s:=by
 unfold ES;refine AE (CI (AT h (fun x s₁ h₁=>AE (EQ ?_)) fun zz zz x=>x));refine AL h₁ fun ho a0=>?_;simp -iota only[n,List.any_nil,jv];refine AE (m:=keeperOf (.ref mw)) ?_;unfold keeperOf;refine AE (Ys ho ?_);simp -iota only[show(El "method-wrapper" != El "method")=true by decide,show(El "method-wrapper"==El "builtin_function_or_method"||El "method-wrapper"==El "method-wrapper")=true by decide,if_true];refine Ad ?_;exact AE (AT a0 (fun r s₂ hr=>AE (CI (wpAny_point (Ad hr)))) fun zz zz x=>x)
theorem nP(w:AD):QN (KK w) (.ref 47) "__setattr__"=some (some (.builtin "object.__setattr__")):=∅
theorem wg(w:AD):takerIn (KK w) 47 "what"=some none:=∅
theorem vD(w:AD):hasDictIn (KK w) 47=true:=∅
theorem rh(w:AD):mroIn (KK w) 47 (.type "object")=some true:=∅
theorem vp(self:Value):refuseLoop self "__setattr__" (.ref 47::KN)=Pure.pure Unit.unit:=by
 rw[refuseLoop_ref];kernel_rfl
theorem Zw(w:AD):(clsIn (KK w) 47).map (·.mro)=some (.ref 47::KN):=by
 refine Mx (MM w) fun nm q bs n sn sub ab a0 dd k0 k1 k2 k3 k5 m=>?_;unfold clsIn;rw[m];rfl
theorem sW{od:Option C6}{tk:Tok}{R:Ju→AN→Prop}{s:AN}(X:(KK w).In s.heap)(I:InstAt s.heap x ox 47 od)
  (h:∀b,AR (Ae pg w) A.in1 (Builtin.ObjectAttr.storeInOwnDict (.ref x) (.ref 47) (.str "what" tk) "what" v b)
   (fun fin s'=>match fin with|.done f=>R (.ok f) s'|.again c'=>c'.quiet=true∧FI (Ae pg w) A c' R s') (fun e s'=>R (.error e) s') s):
  FI (Ae pg w) A (.call (.builtin "object.__setattr__") ⟨[.ref x,.str "what" tk,v],[]⟩) R s:=by
 have n:=PySem.F.store_object;refine AI (QH.mp (Zw w)) fun cd hc a0=>?_;have sub:Kl (Ae pg w) s.heap (UL (.ref x) (.type "object")) true:=I.type.andThen (Yj X (rh w));refine jp n.slot.plain n.entry (@check_slot (Ae pg w) _ _ s "object.__setattr__" "object" "__setattr__" (.ref x) [.str "what" tk,v] [] _ n.kind n.split sub (n.args (.ref x) (.str "what" tk) v) ?_);refine AI (Option.bind_eq_some_iff.mp (wg w)) fun m ha hr=>?_;have hm:Kl (Ae pg w) s.heap (mroOf (.ref 47)) (.ref 47::KN):=a0▸(Tq X hc).andThen .now;have L3:Kl (Ae pg w) s.heap (Builtin.ObjectAttr.storeTaker? m) none:=by
  cases m with
  |none=>exact .now
  |some a=>
   refine AI (QH.mp hr) fun b hb e=>?_;refine(looks_takesIn X hb).andThen ?_;cases b
   ·exact .now
   ·exact Bh e
 rw[osa_eq,refuse_eq];refine AE (AE (I.type.here (AE (hm.here ?_))));rw[vp];exact Ad (AE (I.type.here (AE ((jf X ha).here (AE (L3.here (h _)))))))
theorem uO(X:(KK w).In h)(hx:h.get? x=some (D9 a))
  (k:∀h' t' dx,(∀b o,b≠x→h.get? b=some o→h'.get? b=some o)→h'.get? x=some {D9 a with dict:=some dx}→Q Unit.unit ⟨h',g,d,t',os⟩):
  AR (Ae pg w) A (setAttr (.ref x) "what" v) Q E ⟨h,g,d,t,os⟩:=by
 have IA:InstAt h x (D9 a) 47 none:=⟨hx,rfl,rfl,trivial⟩;refine set_plain (K:=KK w) X IA (nP w) (sW (s:=⟨h,g,d,t+1,os⟩) X IA fun b=>?_);refine AI (any_some (vD w)) fun cd a7 a6=>?_;refine AE (Ad (AE (AE (YQ hx (AE (Tq X a7 _ _ _ _ (fun zz zz e=>e) ?_))))));rw[a6];show AR _ _ (alloc ET>>=_) _ _ _;refine AE (wpAny_alloc ?_);have a1:(h.push ET).get? x=some (D9 a):=BC _ hx;refine AE (wpAny_update a1 ?_);refine Ad (a:=some h.objs.size) ?_;let m:A5:=(h.push ET).update x fun o=>{o with dict:=some h.objs.size};show AR _ _ _ _ _ ⟨m,g,d,t+1,os⟩;have a2:h.objs.size≠x:=HW (DP hx);have ho:m.get? h.objs.size=some ET:=by
  show((h.push ET).update x _).get? _=_;rw[HV _ _ (Ne.symm a2)];exact B2 _ rfl
 have a5:m.get? x=some {D9 a with dict:=some h.objs.size}:=GY _ a1 rfl;have a4:∀b o,b≠x→h.get? b=some o→m.get? b=some o:=fun b o hb e=>by
  show((h.push ET).update x _).get? _=_;rw[HV _ _ (Ne.symm hb)];exact BC _ e
 have a9:m.get? h.objs.size=some ET:=ho;generalize m=h3 at*;show AR _ _ (Zfx h.objs.size _ _ v) _ _ _;unfold Zfx;refine AE (Ad (AE ?_));unfold nsSet;refine AE (AE (Kf (Ad (AE (i6 (AE (YQ ho ?_)))))));dsimp only;have c:(not ((#[]:Array YH).any (·.key.isStr ("what":Str)))&&(#[]:Array YH).any (·.refKey))=false:=by simp
 rw[aRefKeyMayBeTheName_at,c];refine wpAny_updatePart ho ?_;refine B0 (dY (o:=ET) rfl (fun zz he=>by simp at he) "what" (Nm w.params "what") (t+1) v) fun b0 a8 a0=>Bv a0 fun q1 q2 q3 n=>BN n fun q4 q5 q6=>?_;have ge:(h3.update h.objs.size (Nl "what" (Nm w.params "what") (.str "what" (t+1)) v)).get? h.objs.size=some (Nl "what" (Nm w.params "what") (.str "what" (t+1)) v ET):=
  GY _ ho (YR q1)
 refine AE (wpAny_lookBehind ge (by rw[q1];exact pastItsLine_dict (by rw[CJ];simp at q4;exact ln q4 rfl)) (Ad ?_));refine k _ _ h.objs.size (fun b o hb e=>?_) ?_
 ·have a3:b≠h.objs.size:=Bp (DP e);rw[HV _ _ (Ne.symm a3)];exact a4 b o hb e
 ·rw[HV _ _ a2];exact a5
end
end
section
theorem zd(w:AD):OZ w (JQ w).1 25 47 "self":=
 ⟨⟨_,by rfl,by rfl⟩,⟨36,_,_,_,_,_,_,by rfl,rfl,by rfl,∅⟩,⟨_,_,_,rfl⟩,⟨_,rfl⟩,∅,∅,∅,∅⟩
theorem tR(w:AD):alongIn (KK w) "__init__" (((.ref 47::KN:List Value).dropWhile (· != .ref 47)).drop 1)=some (some (.builtin "Exception.__init__")):=∅
theorem n6(w:AD):mroIn (KK w) 47 (.ref 47)=some true:=∅
section
variable {A:AX} {E:Value→AN→Prop} {h:A5} {g:Array Gw} {d:Iw} {t:Nat} {os:Gu} {x a:AB} {v:Value} {R:Ju→AN→Prop}
theorem sZ(q:Q Unit.unit s):AR M A (Ls vs ks) Q E s:=fun m p n=>by rw[Sem.wp_release];exact q
def XO(A:AX)(h:A5)(g:Array Gw)(d:Iw)(t:Nat)(os:Gu)(x:AB)(a:AB)(v:Value)(R:Ju→AN→Prop):Prop:=∀(B:Aj)(Rm:Ah A 2)(n:∀b o,hb.get? b=some o→h.get? b=some o)(a0:hb.get? x=none)(hx:h.get? x=some (D9 a))(k:∀h' t' dx m,(∀b o,b≠x→h.get? b=some o→h'.get? b=some o)→h'.get? x=some {D9 m with dict:=some dx}→R (.ok (.ret .none)) ⟨h',g,d,t',os⟩),FI (Ae pg w) A (.call (.ref 37) ⟨[.ref x,v],[]⟩) R ⟨h,g,d,t,os⟩
def eA:(((AX×A5)×Array Gw)×(Iw×Nat))×(((Gu×AB)×AB)×(Value×(Ju→AN→Prop)))→Prop:=fun t=>XO t.1.1.1.1 t.1.1.1.2 t.1.1.2 t.1.2.1 t.1.2.2 t.2.1.1.1 t.2.1.1.2 t.2.1.2 t.2.2.1 t.2.2.2
def IS:=zE eA (((({},BV),#[]),({},0)),(((BV,0),0),(BV,(fun _ _=>True))))
def xW:=IS.1.1.1.1
def Vk:=IS.1.1.1.2
def V7:=IS.1.1.2
def VY:=IS.1.2.1
def Vv:=IS.1.2.2
def Vt:=IS.2.1.1.1
def FJ:=IS.2.1.1.2
def Gf:=IS.2.1.2
def IU:=IS.2.2.1
def Zcb:=IS.2.2.2
theorem uK:XO xW Vk V7 VY Vv Vt FJ Gf IU Zcb:=fun B Rm n d2 hx k=>by
 refine B3 ((JQ w).2.obj B n) fun o ho hd hc=>?_;refine Ei B.T fun p loose mg mb T=>?_;have X:=zd w;refine AI X.par fun ar c2 a4=>?_;refine Ei X.code fun f0 e5 f1 vs b7=>LY b7 fun e7 e0 tf c1=>Bv c1 fun a7 b6 c5 a6=>?_;refine LY X.cell fun cl e4 e9 b0=>?_;refine AY X.cls fun d1 b5=>?_;have b3:FJ≠47:=fun e=>by
  rw[e]at hx;refine Mx (MM w) fun nm q bs e3 sn sub ab e8 dd k0 k1 k2 k3 k5 c9=>?_;have:=n _ _ (B.K _ _ c9);rw[this]at hx;cases hx
 refine ks_codeAny_call_defAt (fd:=(JQ w).1) (body:=KF (JQ w).1) (binds:=[("self",.ref FJ),("what",IU)]) Rm.d ho hd (T.nolimit.keeps n) (Tt (K:=KK w) (fun Gf o e=>n _ _ (B.K Gf o e)) (JQ w).2.code) rfl (.of_eq rfl)
  (fun y hy=>by have:=Fo.mp (show((JQ w).1.scope.names.all fun FJ=>FJ.2 != .cell)=true by rfl) y hy;simpa using this)
  (by intro y hy;simp only[A7,HY,or_false]at hy;rcases hy with rfl|rfl<;>rfl) (fun a1 b2 m=>?_) () () ()
 have XK:(KK w).In a1:=fun Gf o e=>m _ _ (n _ _ (B.K Gf o e));have a9:=m _ _ hx;have a0:(fun y=>([("self",Ft FJ),("what",IU)]:List (Str×Value)).reverse.lookup y) "self"=some (.ref FJ):=by rfl
 have a2:(fun y=>([("self",Ft FJ),("what",IU)]:List (Str×Value)).reverse.lookup y) "what"=some IU:=by rfl
 obtain⟨oD,c3,b4⟩:∃oD,a1.get? 47=some oD∧oD.data=.cls d1:=by
  refine AI (ZX b5) fun o e1 e2=>?_;exact⟨o,XK _ _ e1,e2⟩
 have d6:(⟨Vk,V7,VY,Vv,Vt⟩:AN).heap.objs.size≠FJ:=fun e=>by
  have:=DP hx;rw[←e]at this;exact EP _ this
 generalize e6:(⟨Vk,V7,VY,Vv,Vt⟩:AN).heap.objs.size=Lf at*;refine ks_wpAt_execs_cons (ks_wpAt_Expr_any ?_ () ());refine ks_wpAt_MethodCall (pl:=_) ?_ ();refine ks_wpAt_super_base (env:=BA (JQ w).1 Lf 37) () () ⋯ rfl (m _ _ ho) hd c2 a7 (XK _ _ b6) rfl c5 a6 X.top ?_;refine ks_loadName_global () () (i4 (env:=BA (JQ w).1 Lf 37) (T.g.keeps fun b o e=>m _ _ (n _ _ e)) (mg_none_of B.K T.g X.sup) (T.b.keeps fun b o e=>m _ _ (n _ _ e)) ((T.builtins _ (by decide+kernel)).trans X.boot) ⟨rfl,?_⟩);refine wpAny_loadName_free () () (show(BA (JQ w).1 Lf 37).cells.lookup _=some 25 by rfl) ⟨_,XK _ _ b0,rfl⟩ ?_;rw[a4];refine Lr () () b2 a0 ?_;refine ks_wpAny_isType_cls c3 b4 ⟨rfl,?_⟩;refine ks_wpAny_call_super c3 b4 a9 rfl (fun c e=>!nomatch e) (Yj XK (n6 w)) (fun h' e kp=>?_);have b1:(KK w).In h':=fun Gf o e=>kp _ _ (XK Gf o e);have hm:Kl (Ae pg w) h' (mroOf (.ref 47)) (.ref 47::KN):=by
  refine AI (QH.mp (Zw w)) fun cd hc d4=>?_;exact d4▸(Tq b1 hc).andThen .now
 refine yT e (looks_opaque b1 X.any) hm rfl b1 (tR w) (kp _ _ a9) rfl b3 ?_;have a3:∀b o,a1.get? b=some o→(h'.push (Mo FJ)).get? b=some o:=fun b o e=>BC _ (kp _ _ e);have c4:(h'.push (Mo FJ)).get? h'.objs.size=some (Mo FJ):=B2 _ rfl;refine Zay (x:=FJ) () ?_;show AR _ _ (evalArgs _ true (Dp _ (Bb [_] _)) []) _ _ _;refine Gg () ?_;refine Tn (Nk (Lr () () (b2.keeps a3) a2 ?_) ⋯) ();refine Tm ⟨c4,?_⟩;have d3:(KK w).In (h'.push (Mo FJ)):=fun Gf o e=>a3 _ _ (XK Gf o e);refine m7 (a:=Gf) d3 c4 (a3 _ _ a9) fun h3 k3 c6=>?_;have a8:∀b o,b≠FJ→a1.get? b=some o→h3.get? b=some o:=fun b o hb e=>k3 b o hb (a3 _ _ e);have c8:(KK w).In h3:=fun Gf o e=>a8 _ _ (fun q=>by
  have:=B.K Gf o e;rw[q,d2]at this;exact As this) (XK Gf o e)
 have a5:h3.Ns Lf (fun y=>([("self",Ft FJ),("what",IU)]:List (Str×Value)).reverse.lookup y):=by
  refine K0 b2 fun o es ep e r=>?_;exact⟨o,es,ep,a8 _ _ d6 e,r⟩
 refine wpAt_of_wpAny (QK ?_);refine wpAny_Assign_stores (Nk (Lr () () a5 a2 ?_) ⋯) () ();show AR _ _ (do
  let ov ←CW [IU] (A0 (.Name "self" _) _)
  Cp _
  CW [IU,ov] (setAttr ov "what" IU)
  Ls [IU,ov] []) _ _ _
 refine AE (CI (Nk (Lr () () a5 a0 ?_) ⋯));refine AE (EQ (AE (CI (uO c8 c6 fun h4 t4 dx k4 d5=>?_))));refine sZ (YK ?_);exact k h4 t4 dx _ (fun b o hb e=>k4 b o hb (a8 b o hb (m b o e))) d5
theorem lR{A h g d t os x a v R}:XO A h g d t os x a v R:=@zF _ eA _ @uK ((((A,h),g),(d,t)),(((os,x),a),(v,R)))
end
end
section
section
variable {A:AX} {E:Value→AN→Prop} {h:A5} {g:Array Gw} {d:Iw} {t:Nat} {os:Gu} {x a:AB} {v:Value} {R:Ju→AN→Prop}
structure Xc(h h':A5)(e:AB):Prop where
 keep:∀b o,h.get? b=some o→h'.get? b=some o
 new:h.get? e=none
 obj:∃dd vs tt sl,h'.get? e=some {cls:=.ref 47,dict:=dd,data:=.fields vs,slots:=sl}∧vs[0]? =some (.ref tt)∧vs[1]? =some .none
theorem yX(B:Aj)(Rm:Ah A 3)(m:∀b o,hb.get? b=some o→h.get? b=some o)(k:∀h' d' t' e,Xc h h' e→Q (.ref e) ⟨h',g,d',t',os⟩):
  AR (Ae pg w) A (call (.ref 47) [v]) Q E ⟨h,g,d,t,os⟩:=by
 refine Kg (wq (fun a o e=>m _ _ (B.K a o e)) Rm fun A' R'=>?_);have n:∀b o,h.get? b=some o→((h.push (J7 [v])).push (D9 h.objs.size)).get? b=some o:=fun b o e=>BC _ (BC _ e);have hx:((h.push (J7 [v])).push (D9 h.objs.size)).get? (h.objs.size+1)=some (D9 h.objs.size):=by heap_get
 have hn:h.get? (h.objs.size+1)=none:=Im (G1 _);have a0:hb.get? (h.objs.size+1)=none:=by
  cases q:hb.get? (h.objs.size+1)with
  |none=>rfl
  |some o=>exact Bh (((m _ _ q).symm.trans hn))
 refine lR B R' (fun b o e=>n b o (m b o e)) a0 hx fun h' t' dx a' k1 k2=>?_;exact⟨rfl,k h' d t' _ ⟨fun b o e=>k1 b o (fun q=>by rw[q,hn]at e;exact As e) (n b o e),hn,_,_,_,_,k2,rfl,rfl⟩⟩
theorem yI(hh:A.handled=none)
  (h:AR (Ae pg w) A y (fun v s₁=>∃e dd vs sl,v=.ref e∧(KK w).In s₁.heap∧s₁.heap.get? e=some {cls:=.ref 47,dict:=dd,data:=.fields vs,slots:=sl}∧vs[1]? =some .none∧E (.ref e) s₁) E s):
  AR (Ae pg w) A (raiseStmt env (some y) none) Q E s:=by
 refine Mx (MM w) fun nm q bs a2 sn sub ab a3 dd k0 k1 k2 k3 k5 a1=>?_;have a0:(Ft 47::KN).contains (.type "BaseException")=true:=by decide+kernel
 unfold raiseStmt;refine AE (AT h (fun v s₁ h₁=>?_) fun zz zz x=>x);refine Ei h₁ fun e dd vs sl n=>LG n fun m X he h1 hE=>?_;subst m;have hC:=X _ _ a1;obtain⟨hp,g,d,tk,os⟩:=s₁
 repeat (first|(with_reducible refine OC he ?_)|with_reducible refine OC hC ?_|(with_reducible refine wpAny_isSubtype_exc hC ?_;rw[a0])|wp_step)
 rw[h1];refine Ad ?_;rw[if_neg ⋯];exact Ad (wpAny_raiseNew_none hh hE)
theorem Z5(w:AD):Co (KK w) Bk "HeapError"=some (some (.ref 47)):=∅
theorem ng(w:AD):Nn (KK w) (.ref 47)=true:=∅
theorem qN(B:Aj)(Rm:Ah A 3)(S:St env ρ σ s.heap)
  (k:AR (Ae pg w) A (A0 m env) (fun v s₁=>∃τ,G τ s₁.heap∧∀h' d' t' e,Xc s₁.heap h' e→E (.ref e) ⟨h',s₁.gens,d',t',s₁.os⟩) E s)
  (hx:env.kindOf "HeapError"=some .globalImplicit)(hk:env.scope.kind=.function)(hg:env.globals=Bk)(he:Bb [m] env=[(false,A0 m env)]):
  AR (Ae pg w) A (GX (.Raise (some (.Call (.Name "HeapError" np) [m] [] a1)) none a2) env) Q E s:=by
 refine Ei B.T fun p loose mg mb T=>?_;rw[arm_exec_Raise];refine AE (EQ (yI Rm.handled ?_));show AR _ _ (A0 _ _>>=fun v=>Cp a2>>=fun zz=>Pure.pure v) _ _ _;refine AE (wpAny_Call_ofName ?_);refine YI hk hx (i3 (hg▸T.g.keeps S.g.base) (mg_of B.K T.g (Z5 w)) ?_);have n:(Dp a1 (Bb [m] env)).any (·.1)=false:=by rw[he];rfl
 refine callWith_of (P:=fun h=>(KK w).In h) (by rw[n];rfl) (keeps_K (ng w)) (Gg n ?_);refine Tn (AT k (fun v s₁ a0=>AI a0 fun τ g hq=>Tm ?_) fun zz zz e=>e) he;refine⟨fun a o e=>g.base _ _ (B.K a o e),?_⟩;obtain⟨hp,gg,d,tk,os⟩:=s₁;refine yX B Rm g.base fun h' d' t' e X=>?_;refine AE (EQ (Ad ?_));refine RD X.obj fun dd vs tt sl ho h0 h1=>?_;exact⟨e,dd,vs,sl,rfl,fun a o e=>X.keep _ _ (g.base _ _ (B.K a o e)),ho,h1,hq h' d' t' e X⟩
end
end
section
variable {σ σ' σ'' σ₂ τ τ' σ0:AA} {s s₀ s' s'' s₂:AN} {h h' h₁:A5} {A:AX} {env:Af} {ρ ρ':AW} {l:List Af} {dead:List AB} {e:AB} {o:C6}
abbrev fl(l:List Af):List AB:=l.filterMap (·.frame)
structure LQ(A:AX)(σ:AA)(l:List Af):Prop where
 fr:A.frames=some l
 kd:∀env∈l,env.scope.kind≠.module∧∃L,env.frame=some L
 own:∀b∈fl l,∃o,σ b=some (.frz o)
structure Ic(l:List Af)(σ:AA)(s:AN)(σ':AA)(h₁:A5)(dead:List AB)(s':AN):Prop where
 g:G σ' h₁
 stp:Aq σ s σ' {s' with heap:=h₁}
 up:h₁.UpToSlots s'.heap
 stays:(H7 h₁ (dead++fl l)).StaysIn s'.heap
 dead:∀d∈dead,EZ σ s d∧σ' d=none∧NT h₁ d
 fr:∀b∈fl l,∃o,σ' b=some (.frz o)
theorem Ic.move(x:Ic l σ s σ' h₁ dead s')(k:(H7 h₁ (dead++fl l)).StaysIn h')(u:s'.heap.UpToSlots h'):Ic l σ s σ' h₁ dead {s' with heap:=h'}:=
 ⟨x.g,⟨x.stp.evo,x.stp.dom,x.stp.gens,x.stp.os⟩,x.up.trans u,k,x.dead,x.fr⟩
theorem Ic.tk(x:Ic l σ s σ' h₁ dead s'):Bt h₁ s'.heap:=fun a o items n q c d=>by
 refine x.stays a o (hideAll_get _ q fun m=>?_);rcases CE.mp m with m|m
 ·refine AI ((x.dead a m).2.2) fun o' q' n'=>?_;obtain rfl:=Ao ((q.symm.trans q'));exact n' ⟨c,_,_,d⟩
 ·refine AY (x.fr a m) fun ob a0=>?_;refine Mi ((x.g.own _ _ a0).2) fun es ep dd zz sl e=>?_;obtain rfl:=Ao ((q.symm.trans e));exact(nomatch ((dd.symm.trans d)))
theorem Ic.land(x:Ic l σ s σ' h₁ dead s')(gs:G σ s.heap):G σ' s'.heap∧Aq σ s σ' s':=by
 have tk:=x.tk;have ex:∀b o,h₁.get? b=some o→b∉dead→b∉fl l→s'.heap.get? b=some o:=fun b o q n1 n2=>x.stays b o (hideAll_get _ q fun m=>(CE.mp m).elim n1 n2);have a1:∀b o,hb.get? b=some o→b∉dead∧b∉fl l:=fun b o q=>by
  refine⟨fun m=>?_,fun m=>?_⟩
  ·have hs:=gs.base b o q;cases z:σ b with
   |none=>have:=(x.dead b m).1 z;exact Bh ((hs.symm.trans this))
   |some y=>have:=(gs.own b y z).1;exact Bh ((q.symm.trans this))
  ·refine AY (x.fr b m) fun ob a0=>?_;have:=(x.g.own _ _ a0).1;exact Bh ((q.symm.trans this))
 refine⟨⟨fun b o q=>ex b o (x.g.base b o q) (a1 b o q).1 (a1 b o q).2,fun a y ey=>⟨(x.g.own a y ey).1,?_⟩⟩,⟨fun b o q n=>?_,x.stp.dom,x.stp.gens,x.stp.os⟩⟩
 ·have O:=(x.g.own a y ey).2;by_cases m:a∈fl l
  ·refine AY (x.fr a m) fun ob a0=>?_;obtain rfl:=Ao ((a0.symm.trans ey));refine Mi O fun es ep dd k sl q=>?_;refine AY (x.up a _ q (fun vs r=>by dsimp only at r;rw[dd]at r;cases r)) fun a2 q'=>?_;exact⟨⟨es,ep,dd,k⟩,a2,q'⟩
  ·refine AI O.there fun ob q zz=>?_;refine O.keeps ((ex a ob q (fun m'=>?_) m).trans q.symm) tk;exact As ((((x.dead a m').2.1).symm.trans ey))
 ·refine AI (x.stp.evo b o q n) fun o' q' f=>?_;refine⟨o',ex b o' q' (fun m=>?_) (fun m=>?_),f⟩
  ·have:=(x.dead b m).1 n;exact Bh ((q.symm.trans this))
  ·refine AY (x.fr b m) fun ob a0=>?_;have:=x.stp.dead q n;exact Bh ((a0.symm.trans this))
theorem St.frozen(S:St env ρ σ h):∃o,h.get? env.locals=some o∧(∃es ep,o.data=.dict es ep∧Ij es)∧G (upd σ env.locals (.frz o)) h:=by
 refine V5 S.l.ns fun m o es ep n hd hk zz zz=>?_;exact⟨o,n,⟨es,ep,hd,hk⟩,S.g.adopt S.nL.2 ⟨⟨es,ep,hd,hk⟩,o.slots,n⟩⟩
theorem pI(n:σ L=none):Ce (upd σ L x) L=σ:=funext fun b=>by
 unfold Ce;by_cases e:b=L
 ·rw[if_pos e,e,n]
 ·rw[if_neg e,Au _ _ e]
theorem Gl(h:b≠L):Ce σ L b=σ b:=if_neg h
theorem St.thaw(S:St env ρ σ s.heap)(ho:s.heap.get? env.locals=some o)(g:G σ' s'.heap)(x:Aq (upd σ env.locals (.frz o)) s σ' s')(hL:σ' env.locals=some (.frz o)):
  G (Ce σ' env.locals) s'.heap∧Aq σ s (Ce σ' env.locals) s':=by
 refine Mi ((g.own _ _ hL).2) fun es ep dd k sl q=>?_;refine⟨g.weaken (Vf σ' env.locals),⟨fun b ob e n=>?_,fun b q'=>?_,x.gens,x.os⟩⟩
 ·by_cases m:b=env.locals
  ·subst m;obtain rfl:=Ao ((ho.symm.trans e));exact⟨_,q,.inr ⟨⟨es,ep,dd,k⟩,sl,rfl⟩⟩
  ·exact x.evo b ob e (by rw[Au _ _ m];exact n)
 ·by_cases m:b=env.locals
  ·rw[m,VD]at q';exact absurd rfl q'
  ·rw[Gl m]at q';rcases x.dom b q' with d|d
   ·rw[Au _ _ m]at d;exact .inl d
   ·exact .inr d
inductive IL(env:Af)(l:List Af)(σ:AA)(s:AN)(Ψ:AA→Prop)(e:AB)(s':AN):Prop
 |mk (ρ₂:AW) (σ₂:AA) (s₂:AN) (S:St env ρ₂ σ₂ s₂.heap) (t:Aq (fx env σ) s (fx env σ₂) s₂) (X:Xc s₂.heap s'.heap e) (g:s'.gens=s₂.gens) (o:s'.os=s₂.os) (k:∀b∈fl l,σ₂ b=σ b) (q:Ψ σ₂)
def iO{a0 a1 a2 a3 m n a6}{c:Prop}:=@IL.casesOn a0 a1 a2 a3 m n a6 (fun _=>c)
inductive RP(P:AB→AN→Prop)(ev:Value)(s':AN):Prop
 |mk (e:AB) (e1:ev=.ref e) (x:P e s')
def Li{a0 n m}{c:Prop}:=@RP.casesOn a0 n m (fun zz=>c)
def Gd(A:AX)(env:Af)(l:List Af)(t:Sem Il)(ρ:AW)(σ:AA)(Ψ:AA→Prop):Prop:=
 ∀s,St env ρ σ s.heap→AR (Ae pg w) A t (fun m m=>False) (RP (IL env l σ s Ψ)) s
def Hk(B:A5)(l:List Af)(e:AB)(t:Value)(L:AB)(h:A5):Prop:=j4 B l e (.ref 47) t h∨UR B l e (.ref 47) t L h
inductive Je(env:Af)(l:List Af)(σ:AA)(s:AN)(Ψ:AA→Prop)(e:AB)(s':AN):Prop
 |mk (ρ₂:AW) (σ₂:AA) (s₂:AN) (o:C6) (σ':AA) (h₁:A5) (dead:List AB) (v:Value) (S:St env ρ₂ σ₂ s₂.heap) (t:Aq (fx env σ) s (fx env σ₂) s₂) (ho:s₂.heap.get? env.locals=some o) (ln:Ic (env::l) (upd σ₂ env.locals (.frz o)) s₂ σ' h₁ dead s')
  (hH:Hk (H7 h₁ (dead++fl (env::l))) (env::l) e v env.locals s'.heap) (k:∀b∈fl l,σ' b=σ b) (hz:σ' env.locals=some (.frz o)) (q:Ψ (Ce σ' env.locals))
def Xi{a0 a1 a2 a3 m n a6}{c:Prop}:=@Je.casesOn a0 a1 a2 a3 m n a6 (fun _=>c)
inductive RC(l:List Af)(σ:AA)(s:AN)(Ψ:AA→Prop)(e:AB)(s':AN):Prop
 |mk (σ':AA) (h₁:A5) (dead:List AB) (v:Value) (ln:Ic l σ s σ' h₁ dead s') (fy:j4 (H7 h₁ (dead++fl l)) l e (.ref 47) v s'.heap) (k:∀b∈fl l,σ' b=σ b) (q:Ψ σ')
def Zdo{a0 a1 a2 a3 m n}{c:Prop}:=@RC.casesOn a0 a1 a2 a3 m n (fun _=>c)
def RX(A:AX)(env:Af)(l:List Af)(t:Sem Il)(ρ:AW)(σ:AA)(Ψ:AA→Prop):Prop:=
 ∀s,St env ρ σ s.heap→AR (Ae pg w) A t (fun m m=>False) (RP (Je env l σ s Ψ)) s
def JP(A:AX)(f:Value)(args:List AV)(l:List Af)(σ:AA)(Ψ:AA→Prop):Prop:=
 ∀s vs,LQ A σ l→G σ s.heap→VRs s.heap args vs→AR (Ae pg w) A (call f vs) (fun m m=>False) (RP (RC l σ s Ψ)) s
theorem iW{st:DC}(k:Gd A env l (GX st env) ρ σ Ψ):Gd A env l (Fp (st::rest) env) ρ σ Ψ:=fun s S=>QK (AT (k s S) (fun m m q=>q.elim) fun m m q=>q)
theorem NW{st:DC}(k:RX A env l (GX st env) ρ σ Ψ):RX A env l (Fp (st::rest) env) ρ σ Ψ:=fun s S=>QK (AT (k s S) (fun m m q=>q.elim) fun m m q=>q)
theorem IL.back(x:IL env l n s₁ Ψ e s')(t:Aq (fx env σ) s (fx env n) s₁)(k:∀b∈fl l,n b=σ b):IL env l σ s Ψ e s':=by
 refine iO x fun a0 σ₂ s₂ S a1 X g o kk q=>?_;exact⟨a0,σ₂,s₂,S,t.trans a1,X,g,o,fun b m=>(kk b m).trans (k b m),q⟩
theorem Je.back(x:Je env l n s₁ Ψ e s')(t:Aq (fx env σ) s (fx env n) s₁)(k:∀b∈fl l,n b=σ b):Je env l σ s Ψ e s':=by
 refine Xi x fun a0 σ₂ s₂ o σ' h₁ dead tt S a1 ho x1 x2 kk x3 q=>?_;exact⟨a0,σ₂,s₂,o,σ',h₁,dead,tt,S,t.trans a1,ho,x1,x2,fun b m=>(kk b m).trans (k b m),x3,q⟩
theorem RX.seq{st:DC}(k:Em A env st ρ σ fun f n m=>f=.next∧(∀b∈fl l,m b=σ b)∧RX A env l (Fp rest env) n m Ψ):RX A env l (Fp (st::rest) env) ρ σ Ψ:=fun s S=>
 QK (AT (k s S) (fun f s₁ z=>HO z fun af n m r a1 a0 z=>BN z fun e1 kk q=>by
  subst e1;cases f<;>first|exact r.elim|exact AT (q s₁ a1) (fun zz zz q=>q.elim) fun ev s' f=>Li f fun e e1 x=>⟨e,e1,x.back a0 kk⟩) fun zz zz q=>q.elim)
theorem Zd8{b e:List DC}(k:TR A env t ρ σ fun c m=>c=true∧(∀b∈fl l,m b=σ b)∧Gd A env l (Fp b env) ρ m Ψ):Gd A env l (GX (.If t b e a0) env) ρ σ Ψ:=fun s S=>
 wpAny_If (AT (k s S) (fun c s₁ z=>FD z fun m g n z=>BN z fun e1 kk q=>by
  subst e1;exact AT (q s₁ (S.step g n)) (fun zz zz q=>q) fun ev s' f=>Li f fun e e1 x=>⟨e,e1,x.back n.toF kk⟩) fun zz zz q=>q.elim)
theorem Zdc{b e:List DC}(k:TR A env t ρ σ fun c m=>(∀b∈fl l,m b=σ b)∧if c then RX A env l (Fp b env) ρ m Ψ else RX A env l (Fp e env) ρ m Ψ):RX A env l (GX (.If t b e a0) env) ρ σ Ψ:=fun s S=>
 wpAny_If (AT (k s S) (fun c s₁ z=>FD z fun m g n z=>AL z fun kk q=>by
  cases c<;>exact AT (q s₁ (S.step g n)) (fun zz zz q=>q) fun ev s' f=>Li f fun e e1 x=>⟨e,e1,x.back n.toF kk⟩) fun zz zz q=>q.elim)
theorem Ze3(B:Aj)(Rm:Ah A 3)(a6:ρ x=some (.int i))(hi:i.natAbs<1000)(ht:n.length≤1000)(q:Ψ σ)
  (a7:Ck (env.kindOf x)=true)(a5:(x==("__debug__":Str))=false)(hx:env.kindOf "HeapError"=some .globalImplicit)(hk:env.scope.kind=.function)(hg:env.globals=Bk):
  Gd A env l (GX (.Raise (some (.Call (.Name "HeapError" np) [.JoinedStr [.Constant (.str n) k0 p1,.FormattedValue (.Name x p2) (-1) none p3] p4] [] a8)) none a9) env) ρ σ Ψ:=fun s S=>by
 refine qN B Rm S ?_ hx hk hg ();have a4:i.natAbs.log2<1920:=Yh (Nat.log2_le_self _) (!ln hi rfl);refine JoinedStr_many (joinParts_cons (Tk ?_));have l0:(Str.empty++n).length=n.length:=by rw[strLen_append];show 0+_=_;exact A6 tB
 refine⟨by rw[l0,CJ];exact ln ht rfl,?_⟩;refine joinParts_cons (FormattedValue_plain (AT (AG (A:=A) (Φ:=fun v σ'=>v=.int i∧σ'=σ) a6 ⟨rfl,rfl⟩ a7 hk a5 _ S) (fun v s₂ a0=>BG a0 fun av m r g t a1=>AL a1 fun e1 e2=>?_) fun zz zz q=>q.elim));subst e1 e2;refine AY r.inv_int fun tk a2=>?_;subst a2;refine wpAny_formatField_int a4 ?_;have l1:(QU (toString i)).length≤5:=by
  have e:=int_text_length_le10 (k:=3) ⋯ (show i.natAbs<10 ^ 3 from hi);rw[PySem.ofString_length];exact ln e rfl
 have l2:((Str.empty++n)++QU (toString i)).length≤Nu:=by rw[strLen_append,l0,CJ];exact Al n8 ht l1
 refine⟨l2,joinParts_nil ?_ l2⟩;have a3:=S.step (s:={s with toks:=s.toks+1}) g ⟨t.evo,t.dom,t.gens,t.os⟩;refine⟨m,g,fun h' d' t' e X=>⟨e,rfl,ρ,m,s₂,a3,⟨t.toF.evo,t.toF.dom,t.gens,t.os⟩,X,rfl,rfl,fun zz zz=>rfl,q⟩⟩
theorem hG(g:G σ h):∀{l:List Af},(∀env∈l,env.scope.kind≠.module∧∃L,env.frame=some L)→(∀b∈fl l,∃o,σ b=some (.frz o))→(∀b∈fl l,B.get? b=none)→h.FunFrames B l
 |[],_,_,_=>trivial
 |env::r,kd,n,hB=>by
  refine GG (kd env (.head _)) fun hk L hL=>?_;have hm:L∈fl (env::r):=by rw[fl,N1,hL];exact .head _
  have sub:∀b∈fl r,b∈fl (env::r):=fun b m=>by rw[fl,N1,hL];exact .tail _ m
  refine AY (n L hm) fun o ho=>?_;refine Mi ((g.own _ _ ho).2) fun es ep dd zz sl q=>?_;exact⟨hk,⟨L,_,hL,hB L hm,q,fun vs r=>by dsimp only at r;exact(nomatch ((dd.symm.trans r)))⟩,hG g (fun env m=>kd env (.tail _ m)) (fun b m=>n b (sub b m)) fun b m=>hB b (sub b m)⟩
inductive RJ(env:Af)(l:List Af)(L:AB)(σ:AA)(s:AN)(Ψ:AA→Prop)(e:AB)(s':AN):Prop
 |mk (ρ₂:AW) (σ₂:AA) (s₂:AN) (o:C6) (σ':AA) (h₁:A5) (dead:List AB) (v:Value) (S:St env ρ₂ σ₂ s₂.heap) (t:Aq (fx env σ) s (fx env σ₂) s₂) (ho:s₂.heap.get? env.locals=some o) (ln:Ic (env::l) (upd σ₂ env.locals (.frz o)) s₂ σ' h₁ dead s')
  (hH:UR (H7 h₁ (dead++fl (env::l))) (env::l) e (.ref 47) v L s'.heap) (k:∀b∈fl l,σ' b=σ b) (hz:σ' env.locals=some (.frz o)) (q:Ψ (Ce σ' env.locals))
def Zcr{a0 a1 a2 a3 m n a6 a7}{c:Prop}:=@RJ.casesOn a0 a1 a2 a3 m n a6 a7 (fun _=>c)
theorem IL.note(hf:env.frame=some L)(hL:env.locals=L)(hk:env.scope.kind=.function)(hA:A.frames=some (env::l))(kd:∀env∈l,env.scope.kind≠.module∧∃L,env.frame=some L)(a4:∀b∈fl l,∃o,σ b=some (.frz o))
  (x:IL env l σ s Ψ e s')
  (q:∀s'',RJ env l L σ s Ψ e s''→Q Unit.unit s''):
  AR (Ae pg w) A (Nr (.ref e) env) Q E s':=by
 refine iO x fun a1 σ₂ s₂ S a6 X hg a9 kk hq=>?_;refine RD X.obj fun dd vs tt sl a0 h0 h1=>?_;refine B3 S.frozen fun o b1 a8 gF=>?_;have b3:fl (env::l)=L::fl l:=by rw[fl,N1,hf]
 have ne:∀b∈fl l,b≠env.locals:=fun b m q=>by
  refine AY (a4 b m) fun ob n=>?_;rw[←kk b m,q,S.nL.1]at n;exact As n
 have fz:∀b∈fl (env::l),∃o',upd σ₂ env.locals (.frz o) b=some (.frz o'):=fun b m=>by
  rw[b3]at m;rcases A7.mp m with rfl|m
  ·exact⟨o,by rw[←hL,Am]⟩
  ·refine AY (a4 b m) fun ob n=>?_;exact⟨ob,by rw[Au _ _ (ne b m),kk b m];exact n⟩
 have g':G (upd σ₂ env.locals (.frz o)) s'.heap:=gF.keeps X.keep;have a3:Aq (upd σ₂ env.locals (.frz o)) s₂ (upd σ₂ env.locals (.frz o)) s':=.keeps X.keep hg a9;have nE:upd σ₂ env.locals (.frz o) e=none:=by
  cases z:upd σ₂ env.locals (.frz o) e with
  |none=>rfl
  |some y=>refine AI ((gF.own _ _ z).2.there) fun ob q zz=>?_;exact As ((X.new.symm.trans q))
 have a2:∀b∈[e]++fl (env::l),(H7 s'.heap ([e]++fl (env::l))).get? b=none:=fun b m=>hideAll_none _ m;have a7:s'.heap.FunFrames (H7 s'.heap ([e]++fl (env::l))) (env::l):=hG g' (fun en m=>by
  rcases A7.mp m with rfl|m
  ·exact⟨by rw[hk];decide,L,hf⟩
  ·exact kd en m) fz fun b m=>a2 b (Ek _ m)
 have b2:(H7 s'.heap ([e]++fl (env::l))).StaysIn s'.heap:=fun b ob q=>of_hideAll _ q;unfold Nr;simp only[hf];refine AE (Kj a0 rfl h1 ?_);rw[if_neg ⋯];refine wpAny_entryW hA a7 hf a0 b2 (a2 e (!Dq)) rfl (Ny.mp h1).1 h0 fun h' a5=>Bv a5 fun k1 k2 k3 k4=>?_;refine q _ ⟨a1,σ₂,s₂,o,upd σ₂ env.locals (.frz o),s'.heap,[e],_,S,a6,b1,⟨g',a3,k4,k1,fun d m=>?_,fz⟩,⟨k1,a2 e (!Dq),k2,k3⟩,fun b m=>by rw[Au _ _ (ne b m)];exact kk b m,Am _ _ _,by rw[pI S.nL.1];exact hq⟩;rw[Ap.mp m];exact⟨fun zz=>X.new,nE,_,a0,fun b0=>AL b0 fun q zz=>by simp at q⟩
theorem nG(hf:env.frame=some L)(H:UR B l e (.ref 47) t L s.heap)
  (q:∀h',UR B l e (.ref 47) t L h'→s.heap.UpToSlots h'→Q Unit.unit {s with heap:=h'}):
  AR (Ae pg w) A (do
   if(←field (.ref e) 1)== .none then unsupported "frame.own-activation:exception-without-traceback"
   setFlight (.ref e) env.frame) Q E s:=by
 obtain⟨f1,f2,f3,oe,vs,T,oT,ts,he,a6,hd,h1,a5,a4,hT,a1,h3⟩:=H;have a2:3<ts.size:=(Ny.mp h3).1;refine AE (Kj he hd h1 ?_);rw[if_neg (by simp)];rw[hf];have n:∀b,b≠T→(s.heap.update T (Obj.mapFields (·.setIfInBounds 3 (Bm L)))).get? b=s.heap.get? b:=fun b hb=>HV _ _ (Ne.symm hb);have m:∀b o,s.heap.get? b=some o→(∀vs,o.data≠.fields vs)→b≠T:=fun b o hb a0 q=>by
  rw[q,hT]at hb;injection hb with hb;subst hb;exact a0 ts a1
 unfold setFlight;refine AE (Kj he hd h1 ?_);rw[if_pos (show(Ft T != MA)=true from by simp)];refine MG hT a1 a2 ?_;refine q _ ⟨fun b o a3=>(n b fun q=>by rw[q,a5]at a3;exact As a3).trans (f1 b o a3),f2,f3.of_keeps fun b o hb a0=>⟨o,(n b (m b o hb a0)).trans hb,rfl⟩,
  oe,vs,T,_,_,(n e (Ne.symm a4)).trans he,a6,hd,h1,a5,a4,GY _ hT (Obj.isFreed_of_fields (Obj.data_mapFields a1 _)),Obj.data_mapFields a1 _,by simp[a2]⟩
  fun b o hb a0=>⟨o.slots,(n b (m b o hb a0)).trans hb⟩
inductive SG(env:Af)(σ:AA)(s:AN)(N:Nat)(Inv:Nat→AW→AA→Prop)(I:AB)(src:BI)(n:Nat)(s':AN):Prop
 |mk (i:Nat) (ρ':AW) (σ':AA) (hn:N<n+i) (inv:Inv i ρ' σ') (S:St env ρ' σ' s'.heap) (t:Aq (fx env σ) s (fx env σ') s') (it:Bs w (fx env σ') s'.heap I src i)
def Ze6{a0 a1 a2 a3 m n a6 a7 a8}{c:Prop}:=@SG.casesOn a0 a1 a2 a3 m n a6 a7 a8 (fun _=>c)
def VH(σ:AA)(A:AX)(env:Af)(ρ:AW)(l:List Af)(target:G5)(n:G5)(body:List DC)(Ψ:AA→Prop):Prop:=∀{a2:A3}{L:AB}(hh:A.handled=none)(hf:env.frame=some L)(hL:env.locals=L)(hk:env.scope.kind=.function)(hA:A.frames=some (env::l))(kd:∀env∈l,env.scope.kind≠.module∧∃L,env.frame=some L)(a3:∀b∈fl l,∃o,σ b=some (.frz o))(k:BQ A env n ρ σ fun a0 a1=>Hv a0 target∧a0.open_∧∃(N:Nat)(Inv:Nat→AW→AA→Prop),Inv 0 ρ a1∧∀i ρ' σ',Inv i ρ' σ'→i≤N∧∃x,a0.nxt σ' i (some x)∧
   AQ A env (Fs target env) x ρ' σ' fun m σ₂=>if i<N then EX A env body m σ₂ (Ww (Inv (i+1)) fun zz zz zz=>False)else(∀b∈fl l,σ₂ b=σ b)∧Gd A env l (Fp body env) m σ₂ Ψ) (hs:autoParam (∀x,G2 n env x=pure x) aI),RX A env l (GX (.For target n body [] a2) env) ρ σ Ψ
def bF:(((AA×AX)×Af)×(AW×List Af))×((G5×G5)×(List DC×(AA→Prop)))→Prop:=fun t=>VH t.1.1.1.1 t.1.1.1.2 t.1.1.2 t.1.2.1 t.1.2.2 t.2.1.1 t.2.1.2 t.2.2.1 t.2.2.2
def JZ:=zE bF (((((fun _=>none),{}),BV),((fun _=>none),[])),((BV,BV),([],(fun _=>True))))
def Wb:=JZ.1.1.1.1
def U8:=JZ.1.1.1.2
def RK:=JZ.1.1.2
def Vb:=JZ.1.2.1
def yW:=JZ.1.2.2
def bB:=JZ.2.1.1
def yi:=JZ.2.1.2
def rG:=JZ.2.2.1
def uC:=JZ.2.2.2
theorem kF:VH Wb U8 RK Vb yW bB yi rG uC:=fun{f2}{L} hh hf hL hk hA kd e0 k hs=>fun s S=>by
 have EE:∀{α:Type}{t:Sem α}{P Q:α→AN→Prop}{E:Value→AN→Prop}{s:AN},AR (Ae pg w) U8 t P (fun zz zz=>False) s→(∀a s,P a s→Q a s)→AR (Ae pg w) U8 t Q E s:=fun h k=>AT h (fun a s q=>k a s q) fun zz zz q=>q.elim;refine wpAny_For (EE (k s S) fun v s₁ h₁=>EE h₁ fun it s₂ c2=>Jl c2 fun I c4 a5 e1 e3 c1 g t c6=>BN c6 fun ht ho c3=>Cr c3 fun N Inv i0 step=>?_) hs;subst e1;have b2:St RK Vb a5 s₂.heap:=S.step g t;have e6:=PH S.g c1;have e2:∀b∈c4.own I,EZ (fx RK Wb) s b:=fun b m n=>c1 b m (II n).1;refine codeAny_forLoop_any (SG RK Wb s N Inv I c4) (fun n s' z=>Ze6 z fun i ρ' σ' hn d4 S' t' a9=>?_) (N+1) ⟨0,Vb,a5,!A9 _,i0,b2,t.toF,e3.toF b2 ho⟩;refine Rt (step i ρ' σ' d4) fun f3 r hr q=>?_;have c5:=a9.fields;refine EE (Bs.next (target:=bB) (E:=fun zz zz=>False) S'.g a9 hh hr ht) fun o e9 b1=>?_
 cases o with
 |none=>refine AL b1 fun e kp=>?_;exact Bh e
 |some v=>
  refine EE b1 fun zz d1 z=>NU z fun x e rx a6 kp=>?_;obtain rfl:=Ao e;have b3:=S'.kp kp (fun b m=>(c5 b m).1) (fun b m=>⟨e6 b m,(c5 b m).2⟩);have b0:=kp.stp t' e2;refine EE (q d1 v b3 rx) fun zz a8 z=>Jm z fun e7 σ₂ a4 a1 a0=>?_;have b6:=a6.step a1 (b3.tupF a1)
  try dsimp only at a0
  by_cases hi:i<N
  ·rw[if_pos hi]at a0;refine EE (a0 a8 a4) fun fl d2 z=>HO z fun af b4 b5 d3 c9 a3 a7=>?_;have T:=b0.trans (a1.trans a3);have b7:=b6.step a3 (a4.tupF a3);cases fl<;>cases af<;>first
    |exact d3.elim
    |exact a7.elim
    |exact⟨n-1,!zY hn hi,i+1,b4,b5,!o6 hn,a7,c9,T,b7⟩
  ·rw[if_neg hi]at a0;refine AT (a0.2 a8 a4) (fun zz zz q=>q.elim) fun ev d2 z=>Li z fun e e1 x=>?_;subst e1;have x':=x.back (b0.trans a1) a0.1;refine x'.note hf hL hk hA kd e0 fun f0 z=>Zcr z fun e4 d6 sa o d5 ha dead tt Sa ta e8 la hH kk hz e5=>?_;refine nG hf hH fun f1 a2 c8=>?_;exact⟨e,rfl,e4,d6,sa,o,d5,ha,dead,tt,Sa,ta,e8,la.move a2.1 c8,by rw[hL];exact .inr a2,kk,hz,e5⟩
theorem Zdu{σ A env ρ l target m body Ψ}:VH σ A env ρ l target m body Ψ:=@zF _ bF _ @kF ((((σ,A),env),(ρ,l)),((target,m),(body,Ψ)))
theorem Za3(k:∀b,b∈n↔b∈bs):(H7 h n).StaysIn (H7 h bs):=fun b o q=>by
 have hm:b∉n:=fun m=>by exact As (((hideAll_none _ m).symm.trans q))
 exact hideAll_get _ (of_hideAll _ q) fun m=>hm ((k b).mpr m)
def V6(σ:AA)(A:AX)(env:Af)(ρ:AW)(l:List Af)(x:Str)(name:Str)(p:A3)(a0:A3)(m:A3)(a1:A3)(args:List G5)(a:AB)(C:AB)(dx:AB)(f:AB)(L:AB)(n:Nat)(fs:Str→Option AV)(fd:Ai)(Ψ:AA→Prop):Prop:=∀(B:Aj)(hx:ρ x=some (.ref a))(I:Du σ a C dx n fs)(hn:fs name=none)(M:B5 w C name f)(F:Ak w f fd)(hf:env.frame=some L)(hL:env.locals=L)(a2:env.scope.kind=.function)(hA:A.frames=some (env::l))(kd:∀env∈l,env.scope.kind≠.module∧∃L,env.frame=some L)(a3:∀b∈fl l,∃o,σ b=some (.frz o))(k:AC A env m args ρ σ fun xs σ₂=>(∀b∈fl l,σ₂ b=σ b)∧(σ₂ L=none→∀o,JP A (.ref f) (.ref a::xs) (env::l) (upd σ₂ L (.frz o)) fun σ'=>Ψ (Ce σ' L)))(hk:Ck (env.kindOf x)=true)(hd:(x==("__debug__":Str))=false)(hp:CO args=true){pl:Sem Bool}(he:A0 (.Call (.Attribute (.Name x p) name a0) args [] m) env=(do
   let ov ←A0 (.Name x p) env
   Cp a0.atName
   let(f,first) ←CW [ov] (GZ ov name pl)
   ES m f first (Dp m (Bb args env)) (H3 m (H4 [] env)))) (hi:interactive env=false) (hs:QL (.Call (.Attribute (.Name x p) name a0) args [] m) none a1.line env=pure false),RX A env l (GX (.Expr (.Call (.Attribute (.Name x p) name a0) args [] m) a1) env) ρ σ Ψ
def dM:((((AA×AX)×Af)×((AW×List Af)×Str))×(((Str×A3)×A3)×(A3×A3)))×((((List G5×AB)×AB)×(AB×AB))×(((AB×Nat)×(Str→Option AV))×(Ai×(AA→Prop))))→Prop:=fun t=>V6 t.1.1.1.1.1 t.1.1.1.1.2 t.1.1.1.2 t.1.1.2.1.1 t.1.1.2.1.2 t.1.1.2.2 t.1.2.1.1.1 t.1.2.1.1.2 t.1.2.1.2 t.1.2.2.1 t.1.2.2.2 t.2.1.1.1.1 t.2.1.1.1.2 t.2.1.1.2 t.2.1.2.1 t.2.1.2.2 t.2.2.1.1.1 t.2.2.1.1.2 t.2.2.1.2 t.2.2.2.1 t.2.2.2.2
def EB:=zE dM ((((((fun _=>none),{}),BV),(((fun _=>none),[]),BV)),(((BV,BV),BV),(BV,BV))),(((([],0),0),(0,0)),(((0,0),(fun _=>none)),(BV,(fun _=>True)))))
def bR:=EB.1.1.1.1.1
def Oh:=EB.1.1.1.1.2
def SW:=EB.1.1.1.2
def cq:=EB.1.1.2.1.1
def Pj:=EB.1.1.2.1.2
def Zaw:=EB.1.1.2.2
def bx:=EB.1.2.1.1.1
def yd:=EB.1.2.1.1.2
def pN:=EB.1.2.1.2
def Zc9:=EB.1.2.2.1
def eB:=EB.1.2.2.2
def uS:=EB.2.1.1.1.1
def IF:=EB.2.1.1.1.2
def Zbu:=EB.2.1.1.2
def pA:=EB.2.1.2.1
def Z0:=EB.2.1.2.2
def Mn:=EB.2.2.1.1.1
def ym:=EB.2.2.1.1.2
def mL:=EB.2.2.1.2
def cP:=EB.2.2.2.1
def zG:=EB.2.2.2.2
theorem qn:V6 bR Oh SW cq Pj Zaw bx yd pN Zc9 eB uS IF Zbu pA Z0 Mn ym mL cP zG:=fun B hx I hn M F hf hL b1 hA kd a7 k hk hd hp {pl} he hi hs=>fun s S=>by
 have EE:∀{α:Type}{t:Sem α}{P Q:α→AN→Prop}{E:Value→AN→Prop}{s:AN},AR (Ae pg w) Oh t P (fun zz zz=>False) s→(∀IF s,P IF s→Q IF s)→AR (Ae pg w) Oh t Q E s:=fun h k=>AT h (fun IF s q=>k IF s q) fun zz zz q=>q.elim;rw[exec_Expr SW _ eB hi hs];refine AE (EQ (AE (AT (Q:=fun zz zz=>False) ?_ (fun zz zz q=>q.elim) fun zz zz q=>q)));refine YS (kws:=[]) (pl:=pl) (EE (AG (A:=Oh) (Φ:=fun v σ'=>v=.ref IF∧σ'=bR) hx ⟨rfl,rfl⟩ hk b1 hd s S) fun u s₁ a9=>BG a9 fun v c1 r g t a6=>AL a6 fun e1 e2=>?_) he;subst e1 e2;obtain rfl:=Bi r;refine SB (I.at g) fun o es ep ho IA hc c3 c5 c4 hl=>?_;refine BN (hl bx) fun l1 l2 l3=>?_;have X:(KK w).In s₁.heap:=fun IF o e=>g.base _ _ (B.K IF o e);refine method_fn (K:=KK w) X IA (Tp M.g).1 (Tp M.g).2 M.f ?_ (by unfold shadowIn;simp[l1,l2 hn]) ?_
 ·refine B0 F.at_ fun od b4 e=>?_;show((KK w).lookup Z0).map (·.cls)=_;rw[e];rfl
 have n:=S.step g t;refine B3 (F.obj B n.g.base) fun of b3 b6 c2=>?_;refine i7 (o:=of) (fd:=cP) (Gg (E7 hp) ?_);refine EE (k s₁ n) fun vs s₂ a5=>GV a5 fun xs σ₂ a8 a2 a3 b0=>AL b0 fun kk q=>⟨⟨?_,b6⟩,?_⟩
 ·refine B0 F.at_ fun od b4 e=>?_;have q1:=n.g.base _ _ (B.K _ _ e);have q2:=a2.base _ _ (B.K _ _ e);rw[b3]at q1;rw[q2,q1]
 ·have a0:=n.step a2 a3;refine B3 a0.frozen fun oL b2 b5 gF=>?_;rw[hL]at gF b2;have nL:=a0.nL.1;rw[hL]at nL;have a4:fl (SW::Pj)=Mn::fl Pj:=by rw[fl,N1,hf]
  have ne:∀b∈fl Pj,b≠Mn:=fun b m q=>by
   refine AY (a7 b m) fun ob a1=>?_;rw[←kk b m,q,nL]at a1;exact As a1
  have al:LQ Oh (upd σ₂ Mn (.frz oL)) (SW::Pj):=⟨hA,fun en m=>by
   rcases A7.mp m with rfl|m
   ·exact⟨by rw[b1];decide,Mn,hf⟩
   ·exact kd en m,fun b m=>by
   rw[a4]at m;rcases A7.mp m with rfl|m
   ·exact⟨oL,Am _ _ _⟩
   ·refine AY (a7 b m) fun ob a1=>?_;exact⟨ob,by rw[Au _ _ (ne b m),kk b m];exact a1⟩⟩
  refine AT (q nL oL s₂ (.ref IF::vs) al gF (.cons (.ref _) a8)) (fun zz zz q=>q) fun ev s' z=>Li z fun e e1 z=>Zdo z fun σ' h₁ dead tt ln fy k2 b7=>?_;refine⟨e,e1,cq,σ₂,s₂,oL,σ',h₁,dead,tt,a0,(t.trans a3).toF,by rw[hL];exact b2,by rw[hL];exact ln,.inl fy,fun b m=>?_,?_,by rw[hL];exact b7⟩
  ·rw[k2 b (by rw[a4];exact .tail _ m),Au _ _ (ne b m)];exact kk b m
  ·rw[hL,k2 Mn (by rw[a4];exact .head _)];exact Am _ _ _
theorem Ta{σ A env ρ l x name p m a1 a0 args a C dx f L n fs fd Ψ}:V6 σ A env ρ l x name p m a1 a0 args a C dx f L n fs fd Ψ:=@zF _ dM _ @qn (((((σ,A),env),((ρ,l),x)),(((name,p),m),(a1,a0))),((((args,a),C),(dx,f)),(((L,n),fs),(fd,Ψ))))
theorem JP.def{f:AB}{fd:Ai}{body:List DC}{names:List Str}{xs:List AV}{n:Nat}{Ψ:AA→Prop}(B:Aj)(F:Ak w f fd)(R:Ah A (n+1))
  (a6:fd.body=.stmts body)
  (k:LQ A σ l→∀L,RX (A.deeper (BA fd L f)) (BA fd L f) l (Fp body (BA fd L f)) (B8 names xs) σ Ψ)
  (a8:∀vs:List Value,vs.length=names.length→HQ fd ⟨vs,[]⟩=pure (names.zip vs))(b2:xs.length=names.length)(ok:Ib fd names=true):
  JP A (.ref f) xs l σ Ψ:=fun s vs al g r=>by
 obtain⟨c4,a7,b0,d4,b4,hk⟩:=Ib.p ok;refine B3 (F.obj B g.base) fun o ho hd hc=>?_;refine Ei B.T fun p loose mg mb T=>?_;have a5:vs.length=names.length:=by rw[←r.length,b2]
 have a0:∀x∈fd.scope.names,x.2≠.cell:=fun x hx=>by have:=Fo.mp a7 x hx;simpa using this
 have a2:oc (BA fd s.heap.objs.size f)=[]:=by
  unfold oc;rw[jA.mpr];rfl;intro p hp;simp only[beq_iff_eq];intro e;exact a0 _ (mem_of_lookup e) rfl
 refine Kg (codeAny_call_def (fd:=fd) (body:=body) (binds:=names.zip vs) R.d ho hd (T.nolimit.keeps g.base) (Tt (K:=KK w) (fun a o e=>g.base _ _ (B.K a o e)) F.code) a6 (.of_eq (a8 vs a5)) a0
  (fun x hx=>?_) (fun a4 c8 a1=>?_) d4 b4 hk)
 ·have:=Fo.mp b0 x.1 (QO hx).1;simpa using this
 ·have S:St (BA fd s.heap.objs.size f) (B8 names xs) σ a4:=by
   refine⟨g.keeps a1,⟨⟨_,c8,fun x av e zz=>?_⟩,fun c hc=>(by rw[a2]at hc;cases hc),fun x av e q=>?_,(by rw[a2];exact .nil),(by rw[a2];exact fun q=>nomatch q)⟩,g.fresh,fun c hc=>(by rw[a2]at hc;cases hc)⟩
   ·refine AI (Wx r c4 e) fun v e' r'=>?_;exact⟨v,e',r'.mono fun zz zz zz zz q zz zz=>a1 _ _ q⟩
   ·exact absurd rfl (a0 _ (mem_of_lookup q))
  have a3:s.heap.get? s.heap.objs.size=none:=GM _;have c9:=k al s.heap.objs.size;generalize e2:s.heap.objs.size=L at*;refine AT (c9 _ S) (fun zz zz q=>q.elim) fun ev s' b7=>Li b7 fun e e1 z=>Xi z fun d5 σ₂ s₂ ob σ' h₁ dead tt b5 c1 d6 ln hH kk hz c6=>?_;subst e1;have hA:(A.deeper (BA fd L f)).frames=some (BA fd L f::l):=Km al.fr;have hf:(BA fd L f).frame=some L:=rfl;have c2:fl (BA fd L f::l)=L::fl l:=by rw[fl,N1,hf]
  have c5:∀{Q:Unit→AN→Prop}{E:Value→AN→Prop},(∀h',j4 (H7 h₁ (dead++fl (BA fd L f::l))) l e (.ref 47) tt h'→s'.heap.UpToSlots h'→Q Unit.unit {s' with heap:=h'})→AR (Ae pg w) (A.deeper (BA fd L f)) (leaving (BA fd L f) (.ref e)) Q E s':=by
   intro Q E q;rcases hH with fy|hh
   ·exact wpAny_leaves_onW hA hf fy q
   ·unfold leaving;refine AE (wpAny_noteFrame_againW hf hh.2.2.2 ?_);exact wpAny_landsW hh fun h' z u=>Bv z fun k1 k2 k3 k4=>q h' ⟨k1,k2,k3.2.2,k4⟩ u
  refine c5 fun h' fy u=>?_;have ta:Aq σ s σ₂ s₂:=.leave (env:=BA fd L f) (s₁:={s with heap:=a4,toks:=s.toks+(names.zip vs).length}) a1 (fun a m=>by
   rcases A7.mp m with rfl|m
   ·exact a3
   ·rw[a2]at m;cases m) rfl rfl c1
  refine AL (b5.thaw (s':={s' with heap:=h₁}) d6 ln.g ln.stp hz) fun gh th=>?_;have b1:∀b∈fl l,b≠L:=fun b m q=>by
   refine AY (al.own b m) fun e3 e0=>?_;refine AI ((g.own b _ e0).2.there) fun b6 q2 zz=>?_;rw[q,a3]at q2;exact As q2
  have same:∀b,b∈(L::dead)++fl l↔b∈dead++fl (BA fd L f::l):=fun b=>by
   rw[c2];simp only[List.cons_append,A7,CE];constructor
   ·rintro(h|h|h)<;>simp[h]
   ·rintro(h|h|h)<;>simp[h]
  have a9:=flyingW_base (Za3 same) fy;refine⟨e,rfl,Ce σ' L,h₁,L::dead,tt,⟨gh,ta.trans ⟨th.evo,th.dom,th.gens,th.os⟩,ln.up.trans u,a9.1,fun d m=>?_,fun b m=>?_⟩,a9,fun b m=>?_,c6⟩
  ·rcases A7.mp m with rfl|m
   ·refine⟨fun zz=>a3,VD _ _,?_⟩;refine Mi ((ln.g.own _ _ hz).2) fun es ep dd zz sl q=>?_;exact⟨_,q,fun b3=>S8 b3 fun zz zz zz r=>by dsimp only at r;exact(nomatch ((dd.symm.trans r)))⟩
   ·refine BN (ln.dead d m) fun d1 d2 d3=>?_;refine⟨fun n=>?_,?_,d3⟩
    ·cases z:s.heap.get? d with
     |none=>rfl
     |some b6=>
      refine AI (ta.evo d b6 z n) fun o2 q2 zz=>?_;have n2:=ta.dead z n;have c3:d≠(BA fd L f).locals:=fun q=>by
       have:d=L:=q;rw[this,a3]at z;exact As z
      have:=d1 (by rw[Au _ _ c3];exact n2);exact Bh ((q2.symm.trans this))
    ·unfold Ce;split
     ·rfl
     ·exact d2
  ·rw[Gl (b1 b m),kk b m];exact al.own b m
  ·rw[Gl (b1 b m)];exact kk b m
theorem Zek{body:List DC}{np b2 p1 p2 c5:A3}{b:Bool}{k0:Nat}{L:AB}{Ψ:AA→Prop}{Φ:CL→AW→AA→Prop}(B:Aj)(hf:env.frame=some L)(hL:env.locals=L)(hA:A.frames=some (env::l))
  (k:RX A env l (Fp body env) ρ σ Ψ)(q:∀ρ' σ',Ψ σ'→Φ (.ret (.bool b)) ρ' σ')(hx:env.kindOf "HeapError"=some .globalImplicit)(hk:env.scope.kind=.function)(hg:env.globals=Bk):
  Em A env (.Try body [.ExceptHandler (some (.Name "HeapError" np)) none [.Return (some (.Constant (.bool b) k0 p1)) p2] b2] [] [] c5) ρ σ Φ:=fun s S=>by
 refine Ei B.T fun p loose mg mb T=>?_;refine wpAny_Try_except (AT (k s S) (fun zz zz q=>q.elim) fun ev s' a5=>Li a5 fun e e1 z=>Xi z fun a0 σ₂ s₂ ob σ' h₁ dead tt n c1 b7 ln hH kk hz c8=>?_);subst e1;have c9:∀{Q:Unit→AN→Prop}{E:Value→AN→Prop},(∀h',UR (H7 h₁ (dead++fl (env::l))) (env::l) e (.ref 47) tt L h'→s'.heap.UpToSlots h'→Q Unit.unit {s' with heap:=h'})→AR (Ae pg w) A (Nr (.ref e) env) Q E s':=by
  intro Q E q;rcases hH with fy|hh
  ·exact wpAny_looks_onW hA hf fy q
  ·rw[hL]at hh;exact wpAny_noteFrame_againW hf hh.2.2.2 (q s'.heap hh (.refl _))
 refine c9 fun d3 a4 b1=>wpAny_landsW a4 fun a9 m b6=>?_;have a1:=ln.move m.1 (b1.trans b6);refine B3 n.frozen fun zz zz zz gF=>?_;refine B3 n.frozen fun d5 b0 c6 gF=>?_;obtain rfl:=Ao ((b7.symm.trans b0));refine AL (a1.land gF) fun a2 d2=>?_;have b4:(KK w).In a9:=fun a o e=>a2.base _ _ (B.K a o e);refine AI m.there fun oe c2 c3=>?_;refine Mx (MM w) fun nm qq bs d1 sn sub ab d6 dd d4 k1 k2 k3 k5 c4=>?_;have hC:=b4 _ _ c4;refine wpAny_handleBy_cons (codeAny_handlers_test (YI hk hx (i3 (hg▸T.g.keeps a2.base) (mg_of B.K T.g (Z5 w)) ?_))) (by intro q;exact nomatch q);refine wpAny_excMatches_sub_self hC c2 c3 (by decide+kernel) (codeAny_handlers_suite ?_);refine lands_againW m fun a6 a3 b5=>?_;have b3:=a1.move a3.1 b5;refine AL (b3.land gF) fun a8 a7=>?_;refine AL (n.thaw (s':={s' with heap:=a6}) b7 a8 a7 hz) fun gh th=>?_;refine QK (wpAny_Return_some (wpAny_Constant_bool ?_));exact⟨.ret (.bool b),a0,Ce σ' env.locals,.bool _,n.step gh th,c1.trans th.toF,q a0 _ c8⟩
theorem xV(B:Aj)(F:Ak w f fd)(S:St env ρ σ s.heap)
  (k:AC A env a6 args ρ σ fun xs m=>m env.locals=none→∀o,AF A (.ref f) xs (upd m env.locals (.frz o)) fun v σ'=>σ' env.locals=some (.frz o)∧Φ v (Ce σ' env.locals))(hp:CO args=true):
  Ej A (ES a6 (.ref f) [] (Dp a6 (Bb args env)) []) σ s Φ:=by
 refine B3 (F.obj B S.g.base) fun o ho hd hc=>?_;refine i7 (o:=o) (fd:=fd) (Gg (E7 hp) ?_);refine AT (k s S) (fun vs s₁ a1=>GV a1 fun xs m a3 g t q=>⟨⟨?_,hd⟩,?_⟩) fun zz zz e=>e
 ·refine B0 F.at_ fun od a9 e=>?_;have q1:=S.g.base _ _ (B.K _ _ e);have q2:=g.base _ _ (B.K _ _ e);rw[ho]at q1;rw[q2,q1]
 ·have n:=S.step g t;refine B3 n.frozen fun oL a8 a7 gF=>?_;exact AT (q n.nL.1 oL s₁ _ gF a3) (fun v s₂ a0=>BG a0 fun av σ₂ a4 a2 a5 a0=>AL a0 fun q1 q2=>by
   refine AL (n.thaw a8 a2 a5 q1) fun gh th=>?_;exact⟨av,_,a4,gh,t.trans th,q2⟩) fun zz zz e=>e
theorem il{id:Str}(B:Aj)(e:Co (KK w) Bk id=some (some (.ref f)))(F:Ak w f fd)
  (k:AC A env a5 args ρ σ fun xs m=>m env.locals=none→∀o,AF A (.ref f) xs (upd m env.locals (.frz o)) fun v σ'=>σ' env.locals=some (.frz o)∧Φ v (Ce σ' env.locals))(hx:autoParam (env.kindOf id=some .globalImplicit) aR)(hk:autoParam (env.scope.kind=.function) aR)(hg:autoParam (env.globals=Bk) aR)
  (hd:autoParam ((id==("__debug__":Str))=false) aD)(hp:autoParam (CO args=true) aR):EV A env (.Call (.Name id p) args [] a5) ρ σ Φ:=fun s S=>by
 refine Ts (AT (NP (A:=A) (ρ:=ρ) (σ:=σ) (Φ:=fun v σ'=>v=AV.fix (.ref f)∧σ'=σ) B e ⟨rfl,rfl⟩ hx hk hg hd s S) (fun v s₁ a3=>BG a3 fun av m r g t a1=>AL a1 fun e1 e2=>?_) fun zz zz e=>e);subst e1 e2;obtain rfl:=TU r;exact AT (xV B F (S.step g t) k hp) (fun v s₂ a0=>BG a0 fun av σ₂ a2 n a4 q=>⟨av,σ₂,a2,n,t.trans a4,q⟩) fun zz zz e=>e
end
section
variable {σ σ' σ'' σ₂ τ τ' σ0:AA} {A:AX} {env:Af} {ρ ρ':AW} {c c':HS} {L L':AZ} {l:List Af}
abbrev Vw(p:Int×Int):AV:=.tup [.int p.1,.int p.2]
abbrev A1(ps:List (Int×Int)):List AV:=ps.map Vw
abbrev Ay(p:Nat×Nat):Int×Int:=(p.1,p.2)
abbrev CB(ps:List (Int×Int)):List Int:=(ps.map fun p=>[p.1,p.2]).flatten
abbrev GA:AV:=.tup [.str "told",.str "trial"]
def told(c:HS)(ps:List (Nat×Nat))(r:AV):HS:=ps.foldl (fun c p=>c.join p.1 p.2 r) c
def Oz(H:AB)(y:Str):Option AV:=if y="heap" then some (.ref H)else none
abbrev Cu(σ:AA)(t dx H:AB):Prop:=Du σ t 517 dx 1 (Oz H)
theorem Fi:Oz H "heap"=some (.ref H):=by rfl
theorem WA(ps:List (Int×Int)):((ps.map fun p=>[AV.int p.1,.int p.2]).map .tup=A1 ps)∧(ps.map fun p=>[AV.int p.1,.int p.2]).flatten=BH (CB ps):=by
 refine⟨by rw[Bx];rfl,?_⟩
 induction ps with
 |nil=>rfl
 |cons p ps m=>
  show[AV.int p.1,.int p.2]++_=_;rw[m];rfl
theorem zS(ps:List (Int×Int)):(CB ps).length=2*ps.length:=by
 induction ps with
 |nil=>rfl
 |cons p ps m=>
  show([p.1,p.2]++CB ps).length=_;rw[BJ,m];simp;exact A6 Zbi
theorem ck(hh:A.handled=none)(hl:σ l0=some (.list (A1 ps)))(hz:ps.length≤1000)(hx:ρ "pairs"=some (.ref l0))
  (q1:∀D,σ D=none→hb.get? D=none→Φ (.ref D) (upd σ D (.list (BH (CB ps)))))
  (m:Q3 scope env "pair" "n"=true)(n:Ck (env.kindOf "pairs")=true)(hk:env.scope.kind=.function):
  EV A env (FO "pair" "n" p1 p2 p3 p4 (.Name "pairs" px) scope q) ρ σ Φ:=by
 refine Zco hh (FA (AG hx ⟨_,_,rfl,hl,trivial,trivial,(ps.map fun p=>[AV.int p.1,.int p.2]),?_,?_,fun D nD nb=>?_⟩ n hk)) m ⋯ ⋯
 ·rw[(WA ps).1];exact QB hl
 ·rw[(WA ps).2,AU,zS];exact A6 wh hz
 ·rw[(WA ps).2];exact q1 D nD nb
theorem Xr{z:Expr}{p1 p2 p7 p8:A3}{k0:Nat}{i:Int}{m:Nat}{Φ:Bool→AA→Prop}(hx:ρ "n"=some (.int i))(kz:EV A env z ρ σ fun u n=>u=.int (m:Nat)∧n=σ)
  (q:Φ (not (decide (0≤i∧i<m))) σ)(hm:autoParam (YJ .Lt z=false) aR)(h1:autoParam (Ck (env.kindOf "n")=true) aR)(hk:autoParam (env.scope.kind=.function) aR):
  TR A env (.UnaryOp .Not (.Compare (.Constant (.int 0) k0 p1) [.LtE,.Lt] [.Name "n" p2,z] p7) p8) ρ σ Φ:=by
 refine QD (iV (BB (AG hx (X8 (BO ?_)) h1 hk)) hm);by_cases h0:0≤i
 ·refine CQ (decide_eq_true h0) ?_;refine kz.mono fun u n a0=>AL a0 fun e1 e2=>?_;subst e1 e2;refine NL (BO ?_);have:decide (0≤i∧i<m)=decide (i<((m:Nat):Int)):=by simp[h0]
  rw[←this];exact q
 ·refine Ba (decide_eq_false h0) ?_;have:decide (0≤i∧i<(m:Int))=false:=by simp[h0]
  rw[←this];exact q
structure Sp(c:HS)(ps:List (Nat×Nat))(Mid HZ:HS→Prop):Prop where
 eq:c.uab.length=c.nodes.length
 b1:c.changes.length≤1000
 b2:c.waiting.length≤1000
 b3:c.marks.length≤900
 b4:c.nodes.length≤1000
 b5:ps.length≤900
 inn:∀p∈ps,p.1<c.uab.length∧p.2<c.uab.length
 pre:∀k≤ps.length,D0 (told (E0 c) (ps.take k) GA)
 set:∃I μ,Oo I μ∧I (told (E0 c) ps GA)∧∀c',I c'→c'.waiting=[]→Mid c'
 back:∀c',Mid c'→∃many J ms ws m,PC many J∧c'.marks=ms++[(many,ws)]∧c'.marks.length≤1000∧J m {c' with marks:=ms,backs:=c'.backs+1}∧∀c'',J 0 c''→HZ (Ec c'' ws)
theorem cY(c:HS)(ps:List (Nat×Nat))(p:Nat×Nat)(r:AV):told c (ps++[p]) r=(told c ps r).join p.1 p.2 r:=by
 unfold told;rw[Qg];rfl
theorem vU(c:HS)(a b:Nat)(r:AV):(c.join a b r).uab.length=c.uab.length:=by
 unfold HS.join;split<;>simp
theorem gR(c:HS)(ps:List (Nat×Nat))(r:AV):(told c ps r).uab.length=c.uab.length:=by
 induction ps generalizing c with
 |nil=>rfl
 |cons p ps m=>show(told (c.join p.1 p.2 r) ps r).uab.length=_;rw[m,vU]
theorem gq{ps:List (Nat×Nat)}{n:Nat}(h:∀p∈ps,p.1<n∧p.2<n):∀i∈CB (ps.map Ay),0≤i∧i<(n:Int):=fun i m=>by
 unfold CB at m;rw[Bx,List.mem_flatten]at m;obtain⟨xs,a0,m⟩:=m;obtain⟨p,hp,rfl⟩:=BD.mp a0;obtain⟨h1,h2⟩:=h p hp;simp only[N9,Ay,A7,HY,or_false]at m;rcases m with rfl|rfl<;>(first|exact Al fw h1|exact Al fw h2)
theorem Cu.out(T:Cu σ t dx (L .hp))(nt:¬A8 c L t)(nd:¬A8 c L dx)(F:Fm σ c L σ' c' L'):Cu σ' t dx (L' .hp)∧¬A8 c' L' t∧¬A8 c' L' dx:=by
 refine AL (F.out T.1 nt) fun a1 n=>?_;refine AL (F.out T.2 nd) fun b1 m=>?_;rw[F.root];exact⟨⟨a1,b1⟩,n,m⟩
theorem Cu.ext(T:Cu σ t dx H)(x:An σ σ'):Cu σ' t dx H:=⟨by rw[x _ (by rw[T.1];exact Ag _)];exact T.1,by rw[x _ (by rw[T.2];exact Ag _)];exact T.2⟩
def Vj(σ:AA)(A:AX)(c:HS)(L:AZ)(ps:List (Nat×Nat))(t:AB)(dx:AB)(n:AB)(Φ:AV→AA→Prop)(m:HS→Prop)(HZ:HS→Prop):Prop:=∀(B:Aj)(R:Ah A 10)(P:AS σ L c)(X:Sp c ps m HZ)(T:Cu σ t dx (L .hp))(nt:¬A8 c L t)(nd:¬A8 c L dx)(hl:σ n=some (.list (A1 (ps.map Ay))))(nl:¬A8 c L n)(q:∀c' L' σ',m c'→AS σ' L' c'→Fm σ c L σ' c' L'→Φ .none σ'),AF A (.ref 481) [.ref t,.ref n] σ Φ
def bh:(((AA×AX)×HS)×((AZ×(List (Nat×Nat)))×AB))×(((AB×AB)×(AV→AA→Prop))×((HS→Prop)×(HS→Prop)))→Prop:=fun t=>Vj t.1.1.1.1 t.1.1.1.2 t.1.1.2 t.1.2.1.1 t.1.2.1.2 t.1.2.2 t.2.1.1.1 t.2.1.1.2 t.2.1.2 t.2.2.1 t.2.2.2
def Ho:=zE bh (((((fun _=>none),{}),De),(((fun _=>0),[]),0)),(((0,0),(fun _ _=>True)),((fun _=>True),(fun _=>True))))
def MZ:=Ho.1.1.1.1
def rd:=Ho.1.1.1.2
def Gp:=Ho.1.1.2
def Pe:=Ho.1.2.1.1
def Ci:=Ho.1.2.1.2
def ML:=Ho.1.2.2
def Rp:=Ho.2.1.1.1
def Ps:=Ho.2.1.1.2
def yh:=Ho.2.1.2
def yG:=Ho.2.2.1
def Zcn:=Ho.2.2.2
theorem lp:Vj MZ rd Gp Pe Ci ML Rp Ps yh yG Zcn:=fun B R P X T nt nd hl nl q=>by
 have b5:=X.b5;have b4:=X.b4;refine AF.def (F:=(Mg w)) (names:=["self","pairs"]) B R rfl (fun Lf=>?_) (DG fun zz zz=>rfl) rfl ∅
 ·refine AJ (Gs R.handled (FA (ck (!R.handled) hl (by rw[AU];exact ln b5 rfl) () (fun D nD nb=>?_) () () ())));have P1:=P.beside (x:=.list (BH (CB (Ci.map Ay)))) nD;have F1:Fm MZ Gp Pe _ Gp Pe:=.beside (x:=.list (BH (CB (Ci.map Ay)))) nD;have T1:Cu _ ML Rp (Pe .hp):=T.ext (.new (x:=.list (BH (CB (Ci.map Ay)))) nD);have d3:=P.out nD;have hD:upd MZ D (.list (BH (CB (Ci.map Ay)))) D=some (.list (BH (CB (Ci.map Ay)))):=Am _ _ _;have a6:upd MZ D (.list (BH (CB (Ci.map Ay)))) Ps=some (.list (A1 (Ci.map Ay))):=by rw[Au _ _ (by rintro rfl;exact As ((nD.symm.trans hl)))];exact hl
  generalize upd MZ D (.list (BH (CB (Ci.map Ay))))=σ1 at*;refine⟨_,_,rfl,hD,trivial,trivial,(CB (Ci.map Ay)).length,fun i ρ' σ'=>i≤(CB (Ci.map Ay)).length∧σ'=σ1∧ρ' "self"=some (.ref ML)∧ρ' "pairs"=some (.ref Ps),⟨!Be _,rfl,by rfl,by rfl⟩,?_⟩;rintro i ρ' σ' ⟨hi,rfl,r1,r2⟩;refine⟨hi,(BH (CB (Ci.map Ay)))[i]?,⟨_,hD,rfl⟩,?_⟩;cases hq:(BH (CB (Ci.map Ay)))[i]? with
  |some x=>
   obtain⟨n,hn,rfl⟩:∃n,(CB (Ci.map Ay))[i]? =some n∧AV.int n=x:=by
    rw[CK]at hq;cases hz:(CB (Ci.map Ay))[i]? with
    |none=>rw[hz]at hq;cases hq
    |some n=>rw[hz]at hq;exact⟨n,rfl,Ao hq⟩
   have a0:=(BY.mp hn).1;have hr:=gq (n:=Gp.nodes.length) (by rw[←X.eq];exact X.inn) n (DE hn);refine A2 (AJ (CP (Xr (m:=Gp.nodes.length) Ar (C5 B (by rw[AP ⋯];exact r1) T1 (Fj w) Fi P1.iH () (Oy w) (Md w) (AC.nil (PS B (R.up rfl) P1 (!b4) ⟨rfl,rfl⟩))) ?_)));rw[decide_eq_true hr];refine Ba Iv ?_;exact Ax (Ax ⟨!a0,rfl,by rw[AP ⋯];exact r1,by rw[AP ⋯];exact r2⟩)
  |none=>
   refine AJ (Bg (C5 B r1 T1 (Fj w) Fi P1.iH () (gM w) (XB w) (AC.nil (ZF B (R.up rfl) P1 X.b1 X.b2 (by have:=X.b3;exact ln this rfl) fun L2 d4 P2 F2=>?_))));refine BN (T1.out nt nd F2) fun T2 b7 d2=>?_;refine AL (F2.out a6 nl) fun a2 c2=>?_;have a9:=F1.trans F2;refine AJ (Gs R.handled (FA (AG r2 ⟨_,_,rfl,a2,trivial,trivial,Ci.length,fun i ρ' σ'=>i≤Ci.length∧ρ' "self"=some (.ref ML)∧∃L',AS σ' L' (told (E0 Gp) (Ci.take i) GA)∧Fm MZ Gp Pe σ' (told (E0 Gp) (Ci.take i) GA) L'∧
    Cu σ' ML Rp (L' .hp)∧¬A8 (told (E0 Gp) (Ci.take i) GA) L' ML∧¬A8 (told (E0 Gp) (Ci.take i) GA) L' Rp∧σ' Ps=some (.list (A1 (Ci.map Ay)))∧¬A8 (told (E0 Gp) (Ci.take i) GA) L' Ps,⟨!Be _,r1,L2,P2,a9,T2,b7,d2,a2,c2⟩,?_⟩)))
   rintro i e0 d5 ⟨a4,a1,L3,P3,F3,T3,a7,d1,a3,c4⟩;refine⟨a4,(A1 (Ci.map Ay))[i]?,⟨_,a3,rfl⟩,?_⟩;have S3:=X.pre i a4;cases hq:(A1 (Ci.map Ay))[i]? with
   |some x=>
    obtain⟨p,hp,rfl⟩:∃p:Nat×Nat,Ci[i]? =some p∧Vw (Ay p)=x:=by
     rw[CK,CK]at hq;cases hz:Ci[i]? with
     |none=>rw[hz]at hq;cases hq
     |some n=>rw[hz]at hq;exact⟨n,rfl,Ao hq⟩
    have a0:=(BY.mp hp).1;refine AL (X.inn p (DE hp)) fun ha a5=>?_;refine FB R.handled (.tup _) rfl (BZ (A2 (BZ (A2 (Dm ?_)))));refine AJ (Bg (C5 B (by rw[AP ⋯,AP ⋯];exact a1) T3 (Fj w) Fi P3.iH () (ZY w) (Vd w) (AC.cons (AG (by rw[AP ⋯];exact Ar) (BX (AG Ar (Bw (BX (DJ (DJ ⟨!ld rfl,?_⟩))))))))));refine gd B (R.up rfl) P3 S3 (a:=p.1) (b:=p.2) (by rw[gR];exact ha) (by rw[gR];exact a5) fun L4 d6 v P4 F4=>Ax ?_;have ht:Ci.take (i+1)=Ci.take i++[p]:=by rw[G4,hp];rfl
    rw[show(told (E0 Gp) (Ci.take i) GA).join p.1 p.2 GA=told (E0 Gp) (Ci.take (i+1)) GA by rw[ht,cY]]at*;refine BN (T3.out a7 d1 F4) fun T4 c9 c6=>?_;refine AL (F4.out a3 c4) fun a8 b6=>?_;exact⟨!a0,by rw[AP ⋯,AP ⋯];exact a1,L4,P4,F3.trans F4,T4,c9,c6,a8,b6⟩
   |none=>
    have c3:Ci.length≤i:=by
     have:=Gb.mp hq;simpa using this
    rw[Io c3]at*;refine FN X.set fun I μ Go hI hm=>?_;refine AJ (Bg (C5 B a1 T3 (Fj w) Fi P3.iH () (R4 w) (Ot w) (AC.nil (Rc B (R.up rfl) Go P3 hI fun c5 L5 c8 b0 c1 P5 F5=>?_))));exact Ax (q c5 L5 c8 (hm c5 b0 c1) P5 (F3.trans F5))
theorem fR{σ A c L ps t dx n Φ m HZ}:Vj σ A c L ps t dx n Φ m HZ:=@zF _ bh _ @lp ((((σ,A),c),((L,ps),t)),(((dx,n),Φ),(m,HZ)))
theorem pM(B:Aj)(R:Ah A 10)(P:AS σ L c)(Go:Oo I μ)(hI:I c)
  (q:∀t dx c' L' σ',I c'→c'.waiting=[]→AS σ' L' c'→Fm σ c L σ' c' L'→Cu σ' t dx (L' .hp)→¬A8 c' L' t→¬A8 c' L' dx→σ t=none→σ dx=none→Φ (.ref t) σ'):AF A (.ref 517) [.ref (L .hp)] σ Φ:=by
 refine TQ B (rS w) R fun A' R' xx dx n1 n n2 n ne=>?_;have O:=(B4.nil σ).inst (C:=517) n1 n2 ne;have P0:=P.ext O.ext;have f1:¬A8 c L xx:=P.out n1;have f2:¬A8 c L dx:=P.out n2;generalize upd (upd σ dx (.ns 0 fun n=>none)) xx (.inst 517 dx)=σ1 at*;refine EA.def (F:=(yV w)) (names:=["self","heap"]) B R' rfl (fun Lf=>?_) (DG fun n n=>rfl) rfl ∅
 ·refine AJ (BR (AG () (NS (l1:=[]) (C:=517) (xx:=xx) B O (!Dq) () (sD w) (!ld rfl) fun m O2=>?_)));have P2:=P.ext O2.ext;have F2:Fm σ c L m c L:=O2.ext.fm;have T2:Cu m xx dx (L .hp):=⟨O2.get (by simp),O2.get (.head _)⟩;refine AJ (Bg (C5 B () T2 (Fj w) Fi P2.iH () (R4 w) (Ot w) (AC.nil (Rc B (R'.deeper _ |>.mono (!A9 _)) Go P2 hI fun c3 L3 a3 a0 a4 P3 F3=>Ax ⟨rfl,?_⟩))));refine BN (T2.out f1 f2 F3) fun T3 a2 a1=>?_;exact q xx dx c3 L3 a3 a0 a4 P3 (F2.trans F3) T3 a2 a1 n1 n2
theorem ow(B:Aj)(R:Ah A 11)(P:AS σ L c){a b:Nat}{n HZ:HS→Prop}(X:Sp c (ps++[(a,a),(b,b)]) n HZ)(hm:∀c',n c'→Bz c'.uab∧c'.uab.length=c.uab.length)
  {t dx l0:AB}(T:Cu σ t dx (L .hp))(nt:¬A8 c L t)(nd:¬A8 c L dx)
  (hl:σ l0=some (.list (A1 (ps.map Ay)))){Φ:AV→AA→Prop}
  (q:∀c' a0 L' σ',n c'→HZ a0→AS σ' L' a0→Fm σ c L σ' a0 L'→Φ (.bool (decide (c'.find a=c'.find b))) σ'):AF A (.ref 488) [.ref t,.ref l0,.int a,.int b] σ Φ:=by
 have b5:=X.b5;rw[BJ]at b5;have ha:=(X.inn (a,a) (by simp)).1;have a1:=(X.inn (b,b) (by simp)).1;refine AF.def (F:=(TD w)) (names:=["self","pairs","a","b"]) B R rfl (fun Lf=>?_) (Ku fun zz zz zz zz=>rfl) rfl ∅
 ·refine AJ (Bg (Bu B () T () (Sr w) (Mg w) (Ab (CH (FF B (JR w) Jc (Ab (AG () (KY hl (by rw[AU,AU];exact Al nA b5) fun D nD nb=>?_))))))));refine Da (BX (Bw (BX (AG () (AG () ⟨!ld rfl,Bw (BX (AG () (AG () ⟨!ld rfl,by simp,fun E nE a6=>?_⟩)))⟩)))));have hD:upd (upd σ D (.list (A1 (ps.map Ay)))) E (.list [.tup [.int a,.int a],.tup [.int b,.int b]]) D=some (.list (A1 (ps.map Ay))):=by
   rw[Au _ _ (by rintro rfl;rw[Am]at nE;cases nE)];exact Am _ _ _
  refine Ka hD (Am _ _ _) (by rw[AU,AU];simp;exact Al tq b5) fun K nK a8=>?_;have x1:An σ (upd (upd (upd σ D (.list (A1 (ps.map Ay)))) E (.list [.tup [.int a,.int a],.tup [.int b,.int b]])) K (.list (A1 (ps.map Ay)++[.tup [.int a,.int a],.tup [.int b,.int b]]))):=((An.new nD).trans (.new nE)).trans (.new nK);have hK:upd (upd (upd σ D (.list (A1 (ps.map Ay)))) E (.list [.tup [.int a,.int a],.tup [.int b,.int b]])) K (.list (A1 (ps.map Ay)++[.tup [.int a,.int a],.tup [.int b,.int b]])) K=some (.list (A1 ((ps++[(a,a),(b,b)]).map Ay))):=by
   rw[Am];simp
  have fK:¬A8 c L K:=fun f=>by
   have:=((An.new (x:=.list (A1 (ps.map Ay))) nD).trans (.new (x:=.list [.tup [.int a,.int a],.tup [.int b,.int b]]) nE)) K (P.foot f);rw[nK]at this;exact P.foot f this.symm
  generalize upd (upd (upd σ D (.list (A1 (ps.map Ay)))) E (.list [.tup [.int a,.int a],.tup [.int b,.int b]])) K (.list (A1 (ps.map Ay)++[.tup [.int a,.int a],.tup [.int b,.int b]]))=σ1 at*;have T1:=T.ext x1;refine fR B (R.deeper _) (P.ext x1) X T1 nt nd hK fK fun c2 L2 a5 m2 P2 F2=>?_;refine BN (T1.out nt nd F2) fun T2 a9 a7=>?_;refine AL (hm c2 m2) fun U2 l2=>?_;refine AJ (BR (C5 B () T2 (Fj w) Fi P2.iH () (r8 w) (dW w) (BX (AG () (AG () (wL B (R.up rfl) P2 U2 (by rw[l2];exact ha) (by rw[l2];exact a1) (A2 ?_)))))));refine KT (X.back c2 m2) fun many J ms ws m Un e1 z1 hJ a3=>?_;refine AJ (Bg (C5 B (by rw[AP ⋯];rfl) T2 (Fj w) Fi P2.iH () (Rz w) (PP w) (AC.nil (UX B (R.up rfl) P2 Un e1 z1 hJ fun c3 L3 a4 a2 P3 F3=>?_))));exact AJ (CD (AG Ar (q c2 _ L3 a4 m2 (a3 c3 a2) P3 ((x1.fm.trans F2).trans F3))))
theorem An.fl(x:An σ σ')(n:∀b∈fl l,∃o,σ b=some (.frz o)):∀b∈fl l,σ' b=σ b:=fun b m=>x b (by refine AY (n b m) fun o e=>?_;rw[e];exact Ag _)
theorem An.back(k:An (upd σ D x) σ')(n:σ D=none):An σ (Ce σ' D):=fun a h=>by
 have:a≠D:=by rintro rfl;exact h n
 rw[Gl this,k a (by rw[Au _ _ this];exact h),Au _ _ this]
structure Mq(m:Nat)(is:List Int)(N:Nat)(i:Int):Prop where
 at_:is[N]? =some i
 bad:¬(0≤i∧i<m)
 small:i.natAbs<1000
 ok:∀j x,j<N→is[j]? =some x→0≤x∧x<m
theorem bQ(B:Aj)(R:Ah A 10)(P:AS σ L c)(hn:c.nodes.length≤900)(X:Mq c.nodes.length (CB ps) N i0)(T:Cu σ t dx (L .hp))
  (hl:σ l0=some (.list (A1 ps)))(hz:ps.length≤900)(q:∀σ',An σ σ'→Ψ σ'):JP A (.ref 481) [.ref t,.ref l0] l σ Ψ:=by
 refine JP.def (F:=(Mg w)) (names:=["self","pairs"]) B R rfl (fun al Lf=>?_) (DG fun zz zz=>rfl) rfl ∅
 ·refine NW (Zdu (L:=Lf) (R.deeper _).handled rfl rfl () (Km al.fr) al.kd al.own (FA (ck (!R.handled) hl (!ln hz rfl) () (fun D nD nb=>?_) () () ())));have x1:An σ (upd σ D (.list (BH (CB ps)))):=.new nD;have P1:=P.beside (x:=.list (BH (CB ps))) nD;have T1:Cu _ t dx (L .hp):=T.ext x1;have hD:upd σ D (.list (BH (CB ps))) D=some (.list (BH (CB ps))):=Am _ _ _;generalize upd σ D (.list (BH (CB ps)))=σ1 at*;refine⟨_,_,rfl,hD,trivial,trivial,N,fun i ρ' σ'=>i≤N∧σ'=σ1∧ρ' "self"=some (.ref t),⟨!Be _,rfl,by rfl⟩,?_⟩;rintro i ρ' σ' ⟨hi,rfl,r1⟩;obtain⟨n,a1⟩:∃n,(CB ps)[i]? =some n:=by
   have:=(BY.mp X.at_).1;exact⟨_,Dy (show i<(CB ps).length by exact AK (CG hi) this)⟩
  refine⟨hi,.int n,⟨_,hD,by rw[CK,a1];rfl⟩,A2 ?_⟩;by_cases a0:i<N
  ·refine CQ a0 ?_;refine AJ (CP (Xr (m:=c.nodes.length) Ar (C5 B (by rw[AP ⋯];exact r1) T1 (Fj w) Fi P1.iH () (Oy w) (Md w) (AC.nil (PS B (R.up rfl) P1 (!ln hn rfl) ⟨rfl,rfl⟩))) ?_));rw[decide_eq_true (X.ok i n a0 a1)];refine Ba Iv ?_;exact Ax (Ax ⟨!a0,rfl,by rw[AP ⋯];exact r1⟩)
  ·refine cw a0 ?_;obtain rfl:i=N:=by exact Ep hi (EU a0)
   obtain rfl:=Ao ((X.at_.symm.trans a1));refine⟨x1.fl al.own,iW (Zd8 (Xr (m:=c.nodes.length) Ar (C5 B (by rw[AP ⋯];exact r1) T1 (Fj w) Fi P1.iH () (Oy w) (Md w) (AC.nil (PS B (R.up rfl) P1 (!ln hn rfl) ⟨rfl,rfl⟩))) ⟨?_,fun zz zz=>rfl,iW (Ze3 B (R.up rfl) Ar X.small ⋯ (q _ x1) () ⋯ () () ())⟩))⟩;rw[decide_eq_false X.bad];rfl
theorem Fm.ext(F:Fm σ c L σ' c L)(P:AS σ L c)(P':AS σ' L c):An σ σ':=fun a n=>by
 by_cases f:A8 c L a
 ·refine AI f fun s hs m=>?_;subst m;refine AY (ER.mp hs) fun x hx=>?_;rw[P.at_ s x hx,P'.at_ s x hx]
 ·exact F.keep a n f
theorem xY(B:Aj)(R:Ah A 11)(P:AS σ L c)(hn:c.nodes.length≤900)(X:Mq c.nodes.length (CB (ps++[(a,a),(b,b)])) N i0)(T:Cu σ t dx (L .hp))
  (hl:σ l0=some (.list (A1 ps)))(hz:ps.length≤800)(q:∀σ',An σ σ'→Ψ σ'):JP A (.ref 488) [.ref t,.ref l0,.int a,.int b] l σ Ψ:=by
 refine JP.def (F:=(TD w)) (names:=["self","pairs","a","b"]) B R rfl (fun n Lf=>?_) (Ku fun zz zz zz zz=>rfl) rfl ∅
 ·refine NW (Ta (L:=Lf) B () T () (Sr w) (Mg w) rfl rfl () (Km n.fr) n.kd n.own
   (Ab (CH (FF B (JR w) Jc (Ab (AG () (KY hl (by rw[AU];exact A6 oP hz) fun D nD nb=>?_)))))) () ⋯ () () () ())
  refine Da (BX (Bw (BX (AG () (AG () ⟨!ld rfl,Bw (BX (AG () (AG () ⟨!ld rfl,by simp,fun E nE a0=>?_⟩)))⟩)))));have hD:upd (upd σ D (.list (A1 ps))) E (.list [.tup [.int a,.int a],.tup [.int b,.int b]]) D=some (.list (A1 ps)):=by
   rw[Au _ _ (by rintro rfl;rw[Am]at nE;cases nE)];exact Am _ _ _
  refine Ka hD (Am _ _ _) (by rw[AU];simp;exact ln hz rfl) fun K nK a1=>?_;have m:An σ (upd (upd (upd σ D (.list (A1 ps))) E (.list [.tup [.int a,.int a],.tup [.int b,.int b]])) K (.list (A1 ps++[.tup [.int a,.int a],.tup [.int b,.int b]]))):=((An.new nD).trans (.new nE)).trans (.new nK);have hK:upd (upd (upd σ D (.list (A1 ps))) E (.list [.tup [.int a,.int a],.tup [.int b,.int b]])) K (.list (A1 ps++[.tup [.int a,.int a],.tup [.int b,.int b]])) K=some (.list (A1 (ps++[(a,a),(b,b)]))):=by
   rw[Am];simp
  generalize upd (upd (upd σ D (.list (A1 ps))) E (.list [.tup [.int a,.int a],.tup [.int b,.int b]])) K (.list (A1 ps++[.tup [.int a,.int a],.tup [.int b,.int b]]))=σ1 at*;have P1:=P.ext m;refine⟨m.fl n.own,fun nL o=>?_⟩;have x2:An σ1 (upd σ1 Lf (.frz o)):=.new nL;refine bQ B (R.deeper _) (P1.ext x2) hn X ((T.ext m).ext x2) (by rw[x2 K (by rw[hK];exact Ag _)];exact hK) (by simp;exact ln hz rfl) fun σ' x3=>q _ (m.trans (x3.back nL))
theorem z7(B:Aj)(R:Ah A 11)(P:AS σ L c)(U:Bz c.uab)(hn:c.nodes.length≤900)(X:Mq c.nodes.length (CB ps) N i0)(T:Cu σ t dx (L .hp))
  (hl:σ l0=some (.list (A1 ps)))(hz:ps.length≤900)(q:∀σ',An σ σ'→Ψ σ'):JP A (.ref 493) [.ref t,.ref l0] l σ Ψ:=by
 refine JP.def (F:=(SL w)) (names:=["self","pairs"]) B R rfl (fun al Lf=>?_) (DG fun zz zz=>rfl) rfl ∅
 ·refine RX.seq (NR (names:=["classes","lots"]) R.handled () (Bw (BX (C5 B () T (Fj w) Fi P.iH () (Ql w) (OY w) (AC.nil (SD B (R.up rfl) P U fun D a0 hD nD P1 F1=>?_))))));refine TN B (W7 w) fun E nE a1 zz=>⟨!ld rfl,_,.tup _,rfl,BZ (GW () (BZ (GW () (Dm ?_))))⟩;have x1:=F1.ext P P1;have x2:An a0 (upd a0 E (.dictI [])):=.new nE;generalize upd a0 E (.dictI [])=σ2 at*;have n:=x1.trans x2;have P2:=P1.ext x2;refine⟨rfl,n.fl al.own,?_⟩;refine NW (Ta (L:=Lf) B (by rw[AP ⋯,AP ⋯];rfl) (T.ext n) () (Sr w) (Mg w) rfl rfl () (Km al.fr) al.kd (fun b m=>by rw[n.fl al.own b m];exact al.own b m)
   (Ab (AG (by rw[AP ⋯,AP ⋯];rfl) ⟨fun zz zz=>rfl,fun nL o=>?_⟩)) () ⋯ () () () ())
  have x3:An σ2 (upd σ2 Lf (.frz o)):=.new nL;exact bQ B (R.deeper _) (P2.ext x3) hn X ((T.ext n).ext x3) (by rw[(n.trans x3) _ (by rw[hl];exact Ag _)];exact hl) hz fun σ' x4=>q _ (n.trans (x4.back nL))
end
section
variable {σ σ':AA} {s s' s'':AN} {h h':A5} {A:AX} {E:Value→AN→Prop}
def Ge(n:Nat):KasT α→Option α
 |.ret a=>some a
 |.ask i j k=>if i<n∧j<n∧i≠j then Ge n (k (decide (i<j)))else none
theorem Z4{α:Type}{n:Nat}{m:Nat→Nat→(Bool→AN→Prop)→AN→Prop}{Q:α→AN→Prop}{s:AN}(hc:∀i j C,i<n→j<n→i≠j→C (decide (i<j)) s→m i j C s):
  ∀(t:KasT α)(a:α),Ge n t=some a→Q a s→t.kasWp m Q s
 |.ret b,a,e,q=>by obtain rfl:=Ao e;exact q
 |.ask i j k,a,e,q=>by
  unfold Ge at e;split at e
  ·rename_i c;exact hc i j _ c.1 c.2.1 c.2.2 (Z4 hc (k (decide (i<j))) a e q)
  ·exact As e
theorem V9:∀(t:KasT α)(a:α),Ge n t=some a→Ge n (t.bind f)=Ge n (f a)
 |.ret b,a,e=>by obtain rfl:=Ao e;rfl
 |.ask i j k,a,e=>by
  unfold Ge at e;split at e
  ·rename_i c;show(if i<n∧j<n∧i≠j then Ge n ((k (decide (i<j))).bind f)else none)=_;rw[if_pos c];exact V9 _ _ e
  ·exact As e
theorem dA(h:m<n):(Qh (B6 n)).getD m 0=m:=by simp[Array.getD,h]
theorem Zbr:∀(f m:Nat),1≤m→m+f=n→Ge n (kas_asc (Qh (B6 n)) f m)=some n:=by
 intro f
 induction f with
 |zero=>
  intro m _ e;show some m=some n;rw[←e];rfl
 |succ f a0=>
  intro m h1 e;show(if _<n∧_<n∧_≠_ then Ge n (if decide (_<_)=true then KasT.ret m else kas_asc _ f (m+1))else none)=_;rw[dA (!BS yU e),dA (!zb e),if_pos (!sv h1 e),decide_eq_false (!sR),if_neg (by simp)];exact a0 (m+1) (!Cz _) (!BS sC e)
theorem nS(h:2≤n):Ge n (kas_sort n)=some (Qh (B6 n)):=by
 have a:Ge n (kas_count n (Qh (B6 n)))=some (n,Qh (B6 n)):=by
  unfold kas_count;rw[V9 _ n (Zbr (n-1) 1 (!A9 _) (!lC h))];simp[Ge]
 unfold kas_sort;rw[V9 _ _ a];dsimp only;rw[if_neg (EP _)];rfl
def Gr(h:A5)(vs:List Value)(ks:List Int):Prop:=vs.length=ks.length∧∀(i:Nat)(v:Value)(k:Int),vs[i]? =some v→ks[i]? =some k→∃(a:AB)(o:C6)(xs:Array Value)(n:Nat)(t:Tok),v=.ref a∧h.get? a=some o∧o.cls=.type "tuple"∧o.data=.seq xs n∧xs[0]? =some (.int k t)
theorem Gr.tups:∀{ks:List Int},Gr h vs ks→∃m,KatTups h vs m∧m.length=vs.length∧∀f∈m,∃k t,f=.int k t:=by
 induction vs with
 |nil=>exact fun zz=>⟨[],trivial,rfl,fun zz h=>nomatch h⟩
 |cons v vs ih=>
  intro ks e;obtain⟨hl,e⟩:=e;cases ks with
  |nil=>cases hl
  |cons k ks=>
   refine KT (e 0 v k rfl rfl) fun a o xs n t a0 ho hc hd hx=>?_;subst a0;refine B3 (ih (ks:=ks) ⟨YD hl,fun i v' k' a1 a2=>e (i+1) v' k' a1 a2⟩) fun m h1 h2 h3=>?_;exact⟨.int k t::m,.cons ho hc hd hx h1,congrArg (· +1) h2,List.forall_mem_cons.mpr ⟨⟨k,t,rfl⟩,h3⟩⟩
theorem Gr.ask(T:Gr s.heap vs ks)(hp:ks.Pairwise (· <·))(hb:b=true)(hi:i<vs.length)(hj:j<vs.length)(a1:i≠j)(q:C (decide (i<j)) s):
  kas_ask pg w A (tuples' b) vs i j C s:=by
 subst hb;have m:=T.1;refine KT (T.2 i _ _ (Dy hi) (Dy (!BS Zz hi m))) fun a o xs n t e1 ho hc hd hx=>?_;refine KT (T.2 j _ _ (Dy hj) (Dy (!BS Zz hj m))) fun a' o' a2 n' t' a3 a5 a7 a6 a0=>?_;have lt:ks[i]'(!AK hi (Ac m))<ks[j]'(!AK hj (Ac m))↔i<j:=by
  constructor
  ·intro q1;by_cases h1:i<j
   ·exact h1
   ·have:=QY.mp hp j i (!AK hj (Ac m)) (!AK hi (Ac m)) (!Al xQ a1 h1);exact Zbj hi hj m q1 this
  ·intro h1;exact QY.mp hp i j (!AK hi (Ac m)) (!AK hj (Ac m)) h1
 have ne:ks[i]'(!AK hi (Ac m))≠ks[j]'(!AK hj (Ac m)):=by
  rcases Nat.lt_or_gt_of_ne a1 with h1|h1
  ·have:=lt.mpr h1;exact zq hi m hj this
  ·have:=QY.mp hp j i (!AK hj (Ac m)) (!AK hi (Ac m)) h1;exact xg hi m hj this
 unfold kas_ask;rw[show vs.getD i MA=vs[i] by simp[hi],show vs.getD j MA=vs[j] by simp[hj],e1,a3];refine kat_lt ho hd a5 a6 ?_;obtain⟨r,hr⟩:∃r,xs.toList=.int (ks[i]'(!AK hi (Ac m))) t::r:=by
  rw[←Dx]at hx
  match hz:xs.toList with
  |[]=>rw[hz]at hx;cases hx
  |z::r=>rw[hz]at hx;cases hx;exact⟨r,rfl⟩
 obtain⟨r',a4⟩:∃r,a2.toList=.int (ks[j]'(!AK hj (Ac m))) t'::r:=by
  rw[←Dx]at a0
  match hz:a2.toList with
  |[]=>rw[hz]at a0;cases a0
  |z::r=>rw[hz]at a0;cases a0;exact⟨r,rfl⟩
 rw[hr,a4,YT];refine kat_cons (wpAny_eqBool_int ?_);rw[beq_eq_false_iff_ne.mpr ne];refine kat_no ?_;refine oneLt_int ?_;rw[show decide (ks[i]'(!AK hi (Ac m))<ks[j]'(!AK hj (Ac m)))=decide (i<j)from decide_eq_decide.mpr lt];exact q
theorem Gr.keep(T:Gr h vs ks)(k:∀b o,h.get? b=some o→o.cls=.type "tuple"→h'.get? b=some o):Gr h' vs ks:=
 ⟨T.1,fun i v x a1 a2=>by refine Ei (T.2 i v x a1 a2) fun a o xs n m=>Ii m fun t e ho hc r=>?_;exact⟨a,o,xs,n,t,e,k a o ho hc,hc,r⟩⟩
set_option backward.match.sparseCases true in
theorem xc(ho:s.heap.get? a=some (Bq "list" vs.toArray n))
  (T:Gr s.heap vs ks)(hp:ks.Pairwise (· <·))(a5:vs.length<64)(h:P (.done (.ret .none)) {s with heap:=UD s.heap a vs vs.toArray}):
  AR (Ae pg w) A (Builtin.«list.sort» ⟨[.ref a],[]⟩) P E s:=by
 rw[list_sort_plain];have ha:a<s.heap.objs.size:=DP ho;have a8:=CJ;refine AE (listItems_at ho rfl ?_);refine AE (listUpdate_at ho rfl ?_ (by rw[List.size_toArray];exact AK (Cy a5) (AK (ld rfl) (Ac a8.symm))) (Be _));obtain⟨e1,a9⟩:∃e1,(s.heap.update a (Dd fun zz=>#[])).get? a=some (Bq "list" #[] e1):=⟨_,UE ho (fun zz=>#[])⟩;refine AE (seqEpoch_at a9 rfl ?_);refine AE (wpAny_newTuple ?_ (by show vs.length≤_;exact AK (Cy a5) (AK (ld rfl) (Ac a8.symm))));refine AE (jw ?_ (Be _));refine CI ?_;have b3:(((s.heap.update a (Dd fun zz=>#[])).push (Bq "tuple" vs.toArray 0)).push (Bq "list" #[] 0)).get? a=some (Bq "list" #[] e1):=by
  rw[Qi _ _ _ (by rw[Yg,QV];exact Bp (H5 ha)),Qi _ _ _ (by rw[QV];exact Bp ha)];exact a9
 have T6:Gr (((s.heap.update a (Dd fun zz=>#[])).push (Bq "tuple" vs.toArray 0)).push (Bq "list" #[] 0)) vs ks:=T.keep fun b o e c=>by
  have b2:=DP e;have ne:b≠a:=by rintro rfl;obtain rfl:=Ao ((ho.symm.trans e));exact absurd c (by simp[Bq])
  rw[Qi _ _ _ (by rw[Yg,QV];exact Bp (H5 b2)),Qi _ _ _ (by rw[QV];exact Bp b2),Zfy _ _ _ _ ne];exact e
 show AR (Ae pg w) A _ P E {s with heap:=((s.heap.update a (Dd fun zz=>#[])).push (Bq "tuple" vs.toArray 0)).push (Bq "list" #[] 0)};dsimp only;have a6:vs.toArray.size=vs.length:=by exact rfl
 have a7:∀(m:SortSt),(arrOf m).map (·.2)=vs.toArray→failedOf m=none→AR (Ae pg w) A (do
   let a0:=(←seqEpoch a) != e1
   Builtin.List.listUpdate (.ref a) fun zz=>(arrOf m).map (·.2)
   if let some e:=failedOf m then rule "list.sort.comparison-raised";throw e
   if a0 then rule "list.sort.modified";raiseError "ValueError" "list modified during sort"
   ret .none) P E {s with heap:=((s.heap.update a (Dd fun zz=>#[])).push (Bq "tuple" vs.toArray 0)).push (Bq "list" #[] 0)}:=fun m e2 e3=>by
  refine AE (seqEpoch_at b3 rfl ?_);refine AE (listUpdate_at b3 rfl ?_ (Be _) (by rw[e2,a6];exact Ga (AK (Cy a5) (AK (ld rfl) (Ac a8.symm)))));rw[e3,e2];simp only[bne_self_eq_false,HU,if_false];exact Ad h
 by_cases h2:vs.toArray.size<2
 ·rw[if_pos h2,if_pos h2];refine AE (Ad ?_);rw[StateT.run_pure];refine AE (Ad ?_);dsimp only;refine a7 _ ?_ rfl;show((vs.toArray.zip vs.toArray).map (·.2))=vs.toArray;simp[List.map_snd_zip]
 ·rw[if_neg h2,if_neg h2];refine B3 T6.tups fun fs t1 t2 t3=>?_;refine AE (kat_kind (s:={s with heap:=((s.heap.update a (Dd fun zz=>#[])).push (Bq "tuple" vs.toArray 0)).push (Bq "list" #[] 0)}) t1 (T:=.type "int") (!AK (AK (AK (ld rfl) (EU h2)) (Ac a6)) (Ac t2.symm)) (fun v hv=>?_) ⋯ ?_)
  ·refine B0 (t3 v hv) fun k t b1=>?_;subst b1;exact .of_pure rfl
  ·refine AE (AT (kat_run (E:=E) (vs:=vs) (ks:=vs) (Q:=fun m s'=>s'={s with heap:=((s.heap.update a (Dd fun zz=>#[])).push (Bq "tuple" vs.toArray 0)).push (Bq "list" #[] 0)}∧(arrOf m).map (·.2)=vs.toArray∧failedOf m=none)
    (G:=fun p s'=>p=Qh (B6 vs.length)∧s'={s with heap:=((s.heap.update a (Dd fun zz=>#[])).push (Bq "tuple" vs.toArray 0)).push (Bq "list" #[] 0)}) rfl (!AK (EU h2) (Ac a6)) a5 (fun p' m s' a1 a2 a3 a4=>⟨a4.2,?_,a3⟩) ?_) (fun r s' q=>?_) fun zz zz e=>e)
   ·rw[kat_snds rfl a2,a4.1];apply congrArg;apply UM;intro i;by_cases hi:i<vs.length
    ·simp[hi]
    ·simp[hi]
   ·exact Z4 (n:=vs.length) (fun i j C hi hj b4 q=>Gr.ask (s:={s with heap:=((s.heap.update a (Dd fun zz=>#[])).push (Bq "tuple" vs.toArray 0)).push (Bq "list" #[] 0)}) T6 hp ⋯ hi hj b4 q) _ _ (nS (!AK (EU h2) (Ac a6))) ⟨rfl,rfl⟩
   ·obtain⟨⟨⟩,m⟩:=r;refine BN q fun b0 q2 q3=>?_;subst b0;exact a7 m q2 q3
theorem Gr.of{m:List (List AV)}(r:VRs h (m.map .tup) vs)(hl:m.length=ks.length)(hk:∀(i:Nat)(ts:List AV)(k:Int),m[i]? =some ts→ks[i]? =some k→ts.head? =some (.int k)):Gr h vs ks:=by
 refine⟨by rw[←r.length,AU,hl],fun i v k a1 a2=>?_⟩;have hi:i<m.length:=by rw[hl];exact(BY.mp a2).1
 have e1:(m.map AV.tup)[i]? =some (.tup m[i]):=by rw[CK,Dy hi];rfl
 refine AI (r.get' e1) fun v' e2 rv=>?_;obtain rfl:=Ao ((a1.symm.trans e2));have h0:=hk i _ k (Dy hi) a2;cases rv with
 |@tup a _ items n et rs=>
  cases hq:m[i]with
  |nil=>rw[hq]at h0;cases h0
  |cons x xs=>
   rw[hq]at h0 rs;obtain rfl:=Ao h0;refine AI (rs.get' (i:=0) rfl) fun v0 e3 r0=>?_;refine AY r0.inv_int fun t a0=>?_;subst a0;exact⟨a,_,items,n,t,rfl,et,rfl,rfl,by rw[←Dx];exact e3⟩
theorem Zdz{a0:List (List AV)}{ks:List Int}(e:σ l=some (.list (a0.map .tup)))(hl:a0.length=ks.length)(hk:∀(i:Nat)(ts:List AV)(k:Int),a0[i]? =some ts→ks[i]? =some k→ts.head? =some (.int k))
  (hp:ks.Pairwise (· <·))(a2:a0.length<64)(q:∀D,σ D=none→hb.get? D=none→Φ (.ref D) (upd σ D (.list (a0.map .tup)))):AF A (.builtin "sorted") [.ref l] σ Φ:=fun s vs g r=>by
 cases r with
 |cons r1 r2=>
  obtain rfl:=Bi r1;cases r2;refine Cn ((g.own _ _ e).2) fun items n o qs=>?_;have T:Gr s.heap items.toList ks:=.of qs hl hk;have a1:items.toList.length=a0.length:=by rw[←qs.length,AU]
  have a6:=CJ;refine Zfo kind_sorted plain_sorted entry_sorted (args_sorted1 _) ?_;unfold Builtin.«sorted»;refine AE (m:=checkCount "sorted" 1 1 _) (Ad ?_);refine AE (collect_list (vs:=items.toList) ⟨_,o,rfl,n,by simp⟩ ?_ (!AK (AK (Ac a1) (Cy a2)) (AK (ld rfl) (Ac a6.symm))));refine AE (jw ?_ (!AK (AK (Ac a1) (Cy a2)) (AK (ld rfl) (Ac a6.symm))));have a3:((s.heap.push (Bq "list" #[] 0)).update s.heap.objs.size (Dd (· ++items.toList.toArray))).objs.size=s.heap.objs.size+1:=by
   rw[QV,Yg]
  have a5:(((s.heap.push (Bq "list" #[] 0)).update s.heap.objs.size (Dd (· ++items.toList.toArray))).push (Bq "list" items.toList.toArray 0)).get? (s.heap.objs.size+1)=some (Bq "list" items.toList.toArray 0):=by
   rw[←a3];exact B2 _ rfl
  show AR _ _ _ _ _ {s with heap:=((s.heap.push (Bq "list" #[] 0)).update s.heap.objs.size (Dd (· ++items.toList.toArray))).push (Bq "list" items.toList.toArray 0)};rw[a3];have kp:∀b o,s.heap.get? b=some o→(((s.heap.push (Bq "list" #[] 0)).update s.heap.objs.size (Dd (· ++items.toList.toArray))).push (Bq "list" items.toList.toArray 0)).get? b=some o:=fun b o q=>by
   have a4:b<s.heap.objs.size:=DP q;rw[Qi _ _ _ (by rw[a3];exact Bp (H5 a4)),Zfy _ _ _ _ (Bp a4),Qi _ _ _ (Bp a4)];exact q
  refine AE (CI (HT slot_list_sort ⟨_,a5,rfl⟩ entry_list_sort
   (xc (s:={s with heap:=((s.heap.push (Bq "list" #[] 0)).update s.heap.objs.size (Dd (· ++items.toList.toArray))).push (Bq "list" items.toList.toArray 0)}) a5 (T.keep fun b o q zz=>kp b o q) hp (!AK (CG (Ac a1)) a2) ⟨_,rfl,?_⟩) (args_list_sort _)))
  refine GG (ae (h:=s.heap) (vs:=items.toList) (out:=items.toList.toArray)) fun k m eo=>?_;exact Ad ⟨_,rfl,TX (tk:=s.toks) g k (Im (G1 _)) eo (qs.mono fun a o items n q zz zz=>k a o q) q⟩
abbrev Gc(f:Nat→Nat)(g:List (Nat×List Nat))(c:Nat):List (Nat×List Nat):=Av g (f c) ((AH g (f c)).getD []++[c])
def CU(f:Nat→Nat)(cs:List Nat):List (Nat×List Nat):=cs.foldl (Gc f) []
def KS(g:List (Nat×List Nat))(ks:List Nat):Prop:=g.map (fun p=>p.2.head?)=ks.map some
theorem VX{K V:Type}[DecidableEq K]{k:K}{v:V}:∀{g:List (K×V)},(g.map (·.1)).Nodup→(k,v)∈g→AH g k=some v:=by
 intro g
 induction g with
 |nil=>
  intro _ m;cases m
 |cons p g n=>
  intro nd m;rw[CF,FU]at nd;rw[Fb];rcases A7.mp m with h|h
  ·subst h;rw[if_pos rfl]
  ·rw[if_neg (fun e=>nd.1 (by rw[e];exact BD.mpr ⟨_,h,rfl⟩))];exact n nd.2 h
theorem LO{K V:Type}[DecidableEq K]{k:K}{v:V}:∀{g:List (K×V)},AH g k=some v→(k,v)∈g:=by
 intro g
 induction g with
 |nil=>
  intro e;exact As e
 |cons p g m=>
  intro e;rw[Fb]at e;split at e
  ·rename_i h;obtain rfl:=Ao e;subst h;exact .head _
  ·exact .tail _ (m e)
theorem VK{K V:Type}[DecidableEq K]{g:List (K×V)}{k:K}{l v:V}(e:AH g k=some l):Av g k v=g.map fun p=>if p.1=k then(p.1,v)else p:=by unfold Av;rw[e];rfl
theorem PK{K V:Type}[DecidableEq K]{g:List (K×V)}{k:K}{v:V}(e:AH g k=none):Av g k v=g++[(k,v)]:=by unfold Av;rw[e];rfl
theorem Mv{K V:Type}[DecidableEq K]{g:List (K×V)}{k:K}(e:AH g k=none):k∉g.map (·.1):=fun m=>by
 induction g with
 |nil=>cases m
 |cons p g n=>
  rw[Fb]at e;split at e
  ·exact Bh e
  ·rename_i h;rw[CF]at m;rcases A7.mp m with q|q
   ·exact h q.symm
   ·exact n e q
theorem Q5{K V:Type}[DecidableEq K]{g:List (K×V)}{k:K}{v:V}:(Av g k v).map (·.1)=if(AH g k).isSome=true then g.map (·.1)else g.map (·.1)++[k]:=by
 unfold Av;split
 ·rw[Bx];refine Dz fun p m=>?_;show(if p.1=k then(p.1,v)else p).1=p.1;split<;>rfl
 ·rw[Cw];rfl
theorem Q8{K V:Type}[DecidableEq K]{g:List (K×V)}{k:K}{v:V}(nd:(g.map (·.1)).Nodup):((Av g k v).map (·.1)).Nodup:=by
 rw[Q5];cases e:AH g k with
 |some l=>exact nd
 |none=>exact Nx.mpr ⟨nd,by simp,fun a m b hb=>by rw[Ap.mp hb];rintro rfl;exact Mv e m⟩
theorem qm(nd:(g.map (·.1)).Nodup)(f:KS g ks)(e:AH g k=some l):KS (Av g k (l++[c])) ks:=by
 unfold KS at f ⊢;rw[VK e,Bx,←f];refine Dz fun p hp=>?_;show(if p.1=k then(p.1,l++[c])else p).2.head? =p.2.head?;split
 ·rename_i h;have n:=VX nd (show(p.1,p.2)∈g from hp);rw[h,e]at n;obtain rfl:=Ao n;have:p.2.head? ∈ks.map some:=by rw[←f];exact BD.mpr ⟨p,hp,rfl⟩
  refine AI (BD.mp this) fun x _ m=>?_;show(p.2++[c]).head? =_;cases hq:p.2 with
  |nil=>rw[hq]at m;cases m
  |cons y ys=>rfl
 ·rfl
theorem Y8(f:Nat→Nat):∀{cs:List Nat},cs.Pairwise (· <·)→∃ks:List Nat,((CU f cs).map (·.1)).Nodup∧KS (CU f cs) ks∧ks.Pairwise (· <·)∧∀k∈ks,k∈cs:=fun{cs}=>by
 induction h:cs.length generalizing cs with
 |zero=>rw[j5.mp h];exact fun zz=>⟨[],.nil,rfl,.nil,by exact⋯⟩
 |succ n ih=>
 intro hp;obtain⟨m,c,rfl⟩:∃m c,cs=m++[c]:=by
  rcases UP cs with rfl|⟨a,b,e⟩
  ·cases h
  ·exact⟨a,b,by rw[e,UQ]⟩
 have ih:=ih (cs:=m) (by simpa using h);clear h;generalize m=cs at*;refine BN (ji.mp hp) fun h1 zz h2=>?_;refine Ii (ih h1) fun ks a0 a1 a2 a3=>?_;have e:CU f (cs++[c])=Gc f (CU f cs) c:=by unfold CU;rw[Qg];rfl
 rw[e];cases q:AH (CU f cs) (f c)with
 |some l=>
  refine⟨ks,Q8 a0,?_,a2,fun k hk=>by simp[a3 k hk]⟩;show KS (Av _ _ ((AH (CU f cs) (f c)).getD []++[c])) ks;rw[q];exact qm a0 a1 q
 |none=>
  refine⟨ks++[c],Q8 a0,?_,?_,fun k hk=>?_⟩
  ·show KS (Av _ _ ((AH (CU f cs) (f c)).getD []++[c])) _;rw[q,PK q];unfold KS at a1 ⊢;rw[Cw,a1,Cw];rfl
  ·exact ji.mpr ⟨a2,Zfs _ _,fun x hx y hy=>by rw[Ap.mp hy];exact h2 x (a3 x hx) c (!Dq)⟩
  ·rcases CE.mp hk with h|h
   ·simp[a3 k h]
   ·simp[Ap.mp h]
end
section
variable {σ σ' τ:AA} {A:AX} {c c':HS} {L L':AZ}
structure IK(τ σ:AA)(E:AB)(g:List (Nat×List Nat))(Y:Nat→AB):Prop where
 keep:∀a,τ a≠none→a≠E→σ a=τ a
 te:τ E≠none
 dct:σ E=some (.dictI (g.map fun p=>((p.1:Int),.ref (Y p.1))))
 nd:(g.map (·.1)).Nodup
 at_:∀p∈g,σ (Y p.1)=some (.list (nats p.2))
 inj:∀p∈g,∀r∈g,Y p.1=Y r.1→p.1=r.1
 fr:∀p∈g,τ (Y p.1)=none
theorem IK.look{E:AB}{g:List (Nat×List Nat)}{Y:Nat→AB}{k:Nat}:AH (g.map fun p=>((p.1:Int),AV.ref (Y p.1))) (k:Int)=(AH g k).map fun m=>.ref (Y k):=R3 (fun i=>AV.ref (Y i)) g k
theorem IK.old{k c:Nat}(X:IK τ σ E g Y)(e:AH g k=some l)(n:σ D=none):IK τ (upd (upd σ D (.list [])) (Y k) (.list (nats l++[.int (c:Nat)]))) E (Av g k (l++[c])) Y:=by
 have hm:=LO e;have nE:D≠E:=by rintro rfl;exact Bh ((X.dct.symm.trans n))
 have yE:Y k≠E:=fun q=>X.te (q▸X.fr _ hm);have m:∀p∈Av g k (l++[c]),∃r∈g,r.1=p.1∧(p.1=k→p.2=l++[c])∧(p.1≠k→r=p):=fun p hp=>by
  rw[VK e]at hp;refine AI (BD.mp hp) fun r hr a1=>?_;subst a1;by_cases h:r.1=k
  ·rw[if_pos h];exact⟨r,hr,rfl,fun zz=>rfl,fun q=>absurd h q⟩
  ·rw[if_neg h];exact⟨r,hr,rfl,fun q=>absurd q h,fun zz=>rfl⟩
 refine⟨fun a h1 h2=>?_,X.te,?_,Q8 X.nd,fun p hp=>?_,fun p hp r hr q=>?_,fun p hp=>?_⟩
 ·rw[Au _ _ (fun q:a=Y k=>h1 (by rw[q];exact X.fr _ hm)),Au _ _ (fun q:a=D=>h1 (by rw[←X.keep a h1 h2,q];exact n))];exact X.keep a h1 h2
 ·rw[Au _ _ (Ne.symm yE),Au _ _ (Ne.symm nE),X.dct,VK e,Bx];refine congrArg (fun x=>some (AO.dictI x)) (Dz fun p zz=>?_);show _=((((if p.1=k then(p.1,l++[c])else p).1:Nat):Int),AV.ref (Y (if p.1=k then(p.1,l++[c])else p).1));split<;>rfl
 ·refine Ii (m p hp) fun r hr e1 e2 e3=>?_;by_cases h:p.1=k
  ·rw[h,Am,e2 h];simp
  ·have:=e3 h;subst this;rw[Au _ _ (fun q=>h (X.inj _ hr _ hm q)),Au _ _ (fun q=>by have:=X.at_ _ hr;rw[q,n]at this;exact As this)];exact X.at_ _ hr
 ·refine B3 (m p hp) fun p' a0 e1 zz=>?_;refine B3 (m r hr) fun r' a3 a2 zz=>?_;rw[←e1,←a2]at q ⊢;exact X.inj _ a0 _ a3 q
 ·refine B3 (m p hp) fun p' a0 e1 zz=>?_;rw[←e1];exact X.fr _ a0
theorem IK.new{E D:AB}{g:List (Nat×List Nat)}{Y:Nat→AB}{k c:Nat}(X:IK τ σ E g Y)(e:AH g k=none)(n:σ D=none):
  IK τ (upd (upd (upd σ D (.list [])) E (.dictI (Av (g.map fun p=>((p.1:Int),AV.ref (Y p.1))) (k:Int) (.ref D)))) D (.list ([]++[.int (c:Nat)]))) E (Av g k ([]++[c])) (fun j=>if j=k then D else Y j):=by
 have nE:D≠E:=by rintro rfl;exact Bh ((X.dct.symm.trans n))
 have tD:τ D=none:=by
  cases q:τ D with
  |none=>rfl
  |some v=>have:=X.keep D (by rw[q];exact Ag _) nE;rw[n,q]at this;exact As this
 have m:∀p∈g,p.1≠k:=fun p hp q=>Mv e (BD.mpr ⟨p,hp,q⟩);have yD:∀p∈g,Y p.1≠D:=fun p hp q=>by have:=X.at_ p hp;rw[q,n]at this;exact As this
 have e':AH (g.map fun p=>((p.1:Int),AV.ref (Y p.1))) (k:Int)=none:=by rw[IK.look (E:=E),e];rfl
 rw[PK e,PK e'];refine⟨fun a h1 h2=>?_,X.te,?_,?_,fun p hp=>?_,fun p hp r hr q=>?_,fun p hp=>?_⟩
 ·have hD:a≠D:=by rintro rfl;exact h1 tD
  rw[Au _ _ hD,Au _ _ h2,Au _ _ hD];exact X.keep a h1 h2
 ·rw[Au _ _ (Ne.symm nE),Am,Cw];refine congrArg (fun x=>some (AO.dictI x)) ?_;refine congr (congrArg _ (Dz fun p hp=>?_)) ?_
  ·rw[if_neg (m p hp)]
  ·show _=[((k:Int),AV.ref (if k=k then D else Y k))];rw[if_pos rfl]
 ·have:=Q8 (k:=k) (v:=([]++[c]:List Nat)) X.nd
  rwa [PK e]at this
 ·rcases CE.mp hp with h|h
  ·rw[if_neg (m p h),Au _ _ (yD p h),Au _ _ (fun q:Y p.1=E=>X.te (by rw[←q];exact X.fr p h)),Au _ _ (yD p h)];exact X.at_ p h
  ·rw[Ap.mp h];rw[if_pos rfl,Am];rfl
 ·rcases CE.mp hp with h|h<;>rcases CE.mp hr with h'|h'
  ·rw[if_neg (m p h),if_neg (m r h')]at q;exact X.inj p h r h' q
  ·rw[Ap.mp h']at q;rw[if_neg (m p h),if_pos rfl]at q;exact absurd q (yD p h)
  ·rw[Ap.mp h]at q;rw[if_neg (m r h'),if_pos rfl]at q;exact absurd q.symm (yD r h')
  ·rw[Ap.mp h,Ap.mp h']
 ·rcases CE.mp hp with h|h
  ·rw[if_neg (m p h)];exact X.fr p h
  ·rw[Ap.mp h];rw[if_pos rfl];exact tD
abbrev BU(c:HS):List Nat:=(B6 c.uab.length).filter fun a=>decide (c.uab[a]? =some a)
theorem ft(c:HS):(BU c).Pairwise (· <·):=jj.filter _
theorem RU(h:a∈BU c):a<c.uab.length:=MH.mp (Dn.mp h).1
abbrev MJ(f:Nat→Nat)(cs:List Nat):List (List Nat):=((CU f cs).filter fun p=>decide (1<p.2.length)).map (·.2)
theorem ee(f:Nat→Nat)(cs:List Nat):(CU f cs).length≤cs.length:=by
 unfold CU
 suffices h:∀(cs:List Nat)(g:List (Nat×List Nat)),(cs.foldl (Gc f) g).length≤g.length+cs.length by simpa using h cs []
 intro cs
 induction cs with
 |nil=>intro g;exact A9 _
 |cons c cs m=>
  intro g;rw[MI];refine AK (m _) ?_;have:(Gc f g c).length≤g.length+1:=by
   unfold Gc Av;split
   ·rw[AU];exact G1 _
   ·simp
  rw[UC];exact BS kr this
theorem ye{K V:Type}[DecidableEq K]{g:List (K×V)}{k:K}{v:V}{p:K×V}(h:p∈Av g k v):p∈g∨p=(k,v):=by
 unfold Av at h;split at h
 ·refine AI (BD.mp h) fun r n m=>?_;subst m;split
  ·rename_i e;right;rw[e]
  ·left;exact n
 ·rcases CE.mp h with h|h
  ·exact .inl h
  ·exact .inr (Ap.mp h)
theorem Zu(f:Nat→Nat)(cs:List Nat):∀p∈CU f cs,p.2.length≤cs.length:=by
 unfold CU
 suffices h:∀(cs:List Nat)(g:List (Nat×List Nat))(m:Nat),(∀p∈g,p.2.length≤m)→∀p∈cs.foldl (Gc f) g,p.2.length≤m+cs.length by simpa using h cs [] 0 (by exact⋯)
 intro cs
 induction cs with
 |nil=>intro g m h p hp;exact h p hp
 |cons c cs n=>
  intro g m h p hp;have:=n (Gc f g c) (m+1) (fun r hr=>by
   rcases ye hr with h'|h'
   ·have:=h r h';exact Ga this
   ·rw[h'];dsimp only;rw[BJ];cases hq:AH g (f c)with
    |none=>exact Cz _
    |some l=>have:=h _ (LO hq);dsimp only at this;simp;exact this) p hp
  rw[UC];exact BS iC this
theorem Zdf{id:String}(a2:N5 "list" name id)(a4:No (.builtin id)=pure (.type "method_descriptor"))
  (k:EV A env o ρ σ fun ov m=>∃l xs,ov=.ref l∧m l=some (.list xs)∧AC A env a0 args ρ m fun ys σ₂=>AF A (.builtin id) (.ref l::ys) σ₂ Φ)(hp:autoParam (CO args=true) aR)
  (he:autoParam (A0 (.Call (.Attribute o name a1) args [] a0) env=(do
   let ov ←A0 o env
   Cp a1.atName
   let(f,first) ←CW [ov] (GZ ov name pl)
   ES a0 f first (Dp a0 (Bb args env)) (H3 a0 (H4 [] env)))) aR):
  EV A env (.Call (.Attribute o name a1) args [] a0) ρ σ Φ:=
 TZ Zfq a2 a4 (k.mono fun ov m a3=>FN a3 fun l xs e1 e2 q=>by
  subst e1;refine⟨fun s u g r=>?_,q⟩;obtain rfl:=Bi r;refine Cn ((g.own _ _ e2).2) fun items n o zz=>?_;exact⟨⟨_,o,rfl⟩,fun a e=>by obtain rfl:=Tu e;exact⟨_,o,rfl⟩⟩) hp he
theorem VN(f:Nat→Nat)(cs:List Nat)(c:Nat):CU f (cs++[c])=Gc f (CU f cs) c:=by unfold CU;rw[Qg];rfl
theorem su(P:AS σ L c)(F:Fm σ0 c0 L0 σ c L)(fE:¬A8 c L E)(m:σ0 E=none)(k:∀a,σ a≠none→a≠E→σ' a=σ a):AS σ' L c∧Fm σ0 c0 L0 σ' c L:=by
 refine⟨P.other fun a f=>k a (P.foot f) (by rintro rfl;exact fE f),⟨fun a n f=>?_,F.foot,F.root⟩⟩;have e:=F.keep a n f;rw[k a (by rw[e];exact n) (by rintro rfl;exact n m),e]
theorem s4(f:KS g ks)(hp:ks.Pairwise (· <·)):(g.map fun p=>(p.2.head?.getD 0)).Pairwise (· <·)∧∀p∈g,p.2≠[]:=by
 have e:(g.map fun p=>(p.2.head?.getD 0))=ks:=by
  have:=congrArg (Iu fun o:Option Nat=>o.getD 0) f;rw[Bx,Bx]at this;rw[show ks.map ((fun o:Option Nat=>o.getD 0)∘some)=ks from Qe ks]at this;exact this
 refine⟨by rw[e];exact hp,fun p m h=>?_⟩;have:p.2.head? ∈ks.map some:=by rw[←f];exact BD.mpr ⟨p,m,rfl⟩
 rw[h]at this;refine AI (BD.mp this) fun x zz n=>?_;exact Bh n
def Hg(σ:AA)(v:AV):List AV:=match v with
 |.ref a=>match σ a with
  |some (.list xs)=>xs
  |_=>[]
 |_=>[]
theorem Qt(e:σ a=some (.list xs)):Hg σ (.ref a)=xs:=by unfold Hg;dsimp only;rw[e]
theorem vX(B:Aj)(R:Ah A 11)(P:AS σ L c){b5 HZ:HS→Prop}(X:Sp c ps b5 HZ)(U:Bz c.uab)(hm:∀c',b5 c'→Bz c'.uab∧c'.uab.length=c.uab.length)
  (d5:BU c≠[])(hz:c.uab.length≤60)
  (T:Cu σ t dx (L .hp))(nt:¬A8 c L t)(nd:¬A8 c L dx)
  (hl:σ l0=some (.list (A1 (ps.map Ay))))(nl:¬A8 c L l0)
  (q:∀c' b0 L' σ' D,b5 c'→HZ b0→AS σ' L' b0→Fm σ c L σ' b0 L'→σ' D=some (.list ((MJ c'.find (BU c)).map fun l=>.tup (nats l)))→¬A8 b0 L' D→Φ (.ref D) σ'):AF A (.ref 493) [.ref t,.ref l0] σ Φ:=by
 have a5:(BU c).length≤60:=AK (OB _ _) (by rw[MF];exact hz);refine AF.def (F:=(SL w)) (names:=["self","pairs"]) B R rfl (fun Lf=>?_) (DG fun _ _=>rfl) rfl ∅
 ·refine AJ (NR (names:=["classes","lots"]) R.handled () (Bw (BX (C5 B () T (Fj w) Fi P.iH () (Ql w) (OY w) (AC.nil (SD B (R.up rfl) P U fun D a6 hD nD P1 F1=>?_))))));refine TN B (W7 w) fun E nE h3 E1=>⟨!ld rfl,_,.tup _,rfl,BZ (GW () (BZ (GW () (Dm ?_))))⟩;have x1:=F1.ext P P1;have x2:An a6 (upd a6 E (.dictI [])):=.new nE;have hE:upd a6 E (.dictI []) E=some (.dictI []):=Am _ _ _;have sE:σ E=none:=by
   cases z:σ E with
   |none=>rfl
   |some v=>have:=x1 E (by rw[z];exact Ag _);rw[nE,z]at this;exact As this
  generalize upd a6 E (.dictI [])=σ2 at*;have b7:=x1.trans x2;have P2:=P1.ext x2;have e0:σ2 D=some (.list (nats (BU c))):=by rw[x2 D (by rw[hD];exact Ag _)];exact hD
  have fD:¬A8 c L D:=P.out nD;have fE:¬A8 c L E:=P.out sE;have T2:=T.ext b7;have f2:σ2 l0=some (.list (A1 (ps.map Ay))):=by rw[b7 l0 (by rw[hl];exact Ag _)];exact hl
  refine AJ (Bg (Bu B () T2 () (Sr w) (Mg w) (Ab (AG () (fR B (R.deeper _) P2 X T2 nt nd f2 nl fun c3 L3 b4 m3 P3 F3=>?_)))));refine BN (T2.out nt nd F3) fun T3 f4 h4=>?_;refine AL (F3.out e0 fD) fun a9 h6=>?_;refine AL (F3.out hE fE) fun a4 d3=>?_;refine AL (hm c3 m3) fun U3 l3=>?_;have b3:=b7.fm.trans F3;have f3:∀{σ':AA},(∀a,b4 a≠none→a≠E→σ' a=b4 a)→AS σ' L3 c3∧Fm σ c L σ' c3 L3∧Cu σ' t dx (L3 .hp)∧σ' D=some (.list (nats (BU c))):=fun{σ'} k=>by
   refine⟨P3.other fun a f=>k a (P3.foot f) (by rintro rfl;exact d3 f),⟨fun a n f=>?_,b3.foot,b3.root⟩,⟨?_,?_⟩,?_⟩
   ·have e:=b3.keep a n f;rw[k a (by rw[e];exact n) (by rintro rfl;exact n sE),e]
   ·rw[k t (by rw[T3.1];exact Ag _) (by rintro rfl;have:=T3.1;exact(nomatch (Ao ((a4.symm.trans this)))))];exact T3.1
   ·rw[k dx (by rw[T3.2];exact Ag _) (by rintro rfl;have:=T3.2;exact(nomatch (Ao ((a4.symm.trans this)))))];exact T3.2
   ·rw[k D (by rw[a9];exact Ag _) (by rintro rfl;exact(nomatch (Ao ((a9.symm.trans a4)))))];exact a9
  refine AJ (Gs R.handled (FA (AG () ⟨_,_,rfl,a9,trivial,trivial,(BU c).length,fun i ρ' σ'=>i≤(BU c).length∧ρ' "self"=some (.ref t)∧ρ' "lots"=some (.ref E)∧∃Y,IK b4 σ' E (CU c3.find ((BU c).take i)) Y,
   ⟨!Be _,by rfl,by rfl,fun _=>0,⟨fun _ _ _=>rfl,by rw[a4];exact Ag _,a4,.nil,by intro p hp;exact absurd hp (by simp[CU]),by intro p hp;exact absurd hp (by simp[CU]),by intro p hp;exact absurd hp (by simp[CU])⟩⟩,?_⟩)))
  rintro i h5 b6 ⟨hi,r1,r2,Y,X4⟩;refine Bv (f3 X4.keep) fun P4 F4 T4 e5=>?_;refine⟨hi,(nats (BU c))[i]?,⟨_,e5,rfl⟩,?_⟩;cases hq:(nats (BU c))[i]? with
  |some x=>
   obtain⟨n,hn,rfl⟩:∃n:Nat,(BU c)[i]? =some n∧AV.int n=x:=by
    rw[CK]at hq;cases hz:(BU c)[i]? with
    |none=>rw[hz]at hq;cases hq
    |some n=>rw[hz]at hq;exact⟨n,rfl,Ao hq⟩
   have c6:=(BY.mp hn).1;have e4:n<c3.uab.length:=by rw[l3];exact RU (DE hn)
   have ht:CU c3.find ((BU c).take (i+1))=Gc c3.find (CU c3.find ((BU c).take i)) n:=by rw[G4,hn];exact VN _ _ _
   have b1:=ee c3.find ((BU c).take i);have d1:((BU c).take i).length≤60:=AK (List.length_take_le' _ _) a5;have b2:=Zu c3.find ((BU c).take i);generalize CU c3.find ((BU c).take i)=g at*;refine A2 (AJ (Bg (Zdf Fu Fv (Na T9 j1 (AG (by rw[AP ⋯];exact r2) ⟨rfl,.inl ⟨_,X4.dct⟩,BX
    (C5 B (by rw[AP ⋯];exact r1) T4 (Fj w) Fi P4.iH () (HD w) (Ha w) (Ab (AG Ar (HC B (R.up rfl) P4 U3 e4
     (Da (AC.nil ⟨!Be _,fun D2 a3 f5=>?_⟩))))))⟩)))))
   have dE:upd b6 D2 (.list []) E=some (.dictI (g.map fun p=>((p.1:Int),.ref (Y p.1)))):=by rw[Au _ _ (by rintro rfl;exact Bh ((X4.dct.symm.trans a3)))];exact X4.dct
   have lk:=IK.look (E:=E) (g:=g) (Y:=Y) (k:=c3.find n);refine Zcz (Fh w) dE E1 (by rw[AU];exact ln (AK b1 d1) rfl) (fun y hy=>?_) (fun hy=>?_)
   ·rw[lk]at hy;cases hk:AH g (c3.find n)with
    |none=>rw[hk]at hy;cases hy
    |some l=>
     rw[hk]at hy;cases hy;have hY:=X4.at_ _ (LO hk);have c4:upd b6 D2 (.list []) (Y (c3.find n))=some (.list (nats l)):=by rw[Au _ _ (by rintro e;rw[←e,hY]at a3;exact Bh a3)];exact hY
     have e6:(nats l).length≤100000:=by have:=b2 _ (LO hk);dsimp only at this;rw[AU];exact ln (AK this d1) rfl
     refine⟨_,_,rfl,c4,Ab (AG Ar (FC c4 e6 ?_))⟩;refine Ax ⟨!c6,by rw[AP ⋯];exact r1,by rw[AP ⋯];exact r2,Y,?_⟩;have Z:=X4.old (c:=n) hk a3;rw[ht];unfold Gc;rw[hk];exact Z
   ·rw[lk]at hy;cases hk:AH g (c3.find n)with
    |some l=>rw[hk]at hy;cases hy
    |none=>
     have d2:upd (upd b6 D2 (.list [])) E (.dictI (Av (g.map fun p=>((p.1:Int),AV.ref (Y p.1))) (c3.find n:Int) (.ref D2))) D2=some (.list []):=by
      rw[Au _ _ (by rintro rfl;exact Bh ((X4.dct.symm.trans a3))),Am]
     refine⟨_,_,rfl,d2,Ab (AG Ar (FC d2 (!Be _) ?_))⟩;refine Ax ⟨!c6,by rw[AP ⋯];exact r1,by rw[AP ⋯];exact r2,fun j=>if j=c3.find n then D2 else Y j,?_⟩;have Z:=X4.new (c:=n) hk a3;rw[ht];unfold Gc;rw[hk];exact Z
  |none=>
   have e7:(BU c).length≤i:=by
    have:=Gb.mp hq
    rwa [AU]at this
   rw[Io e7]at X4;refine KT (X.back c3 m3) fun many J ms ws m Un e1 z1 hJ e9=>?_;refine AJ (Bg (C5 B r1 T4 (Fj w) Fi P4.iH () (Rz w) (PP w) (AC.nil (UX B (R.up rfl) P4 Un e1 z1 hJ fun c5 L5 a0 e8 P5 F5=>?_))));have d6:=F4.trans F5;refine AL (F5.out X4.dct d3) fun f1 c2=>?_;refine Ii (Y8 c3.find (ft c)) fun ks g0 g1 g2 g3=>?_;refine AL (s4 g1 g2) fun h1 h2=>?_;have b1:=ee c3.find (BU c);have b2:=Zu c3.find (BU c);have e2:CU c3.find (BU c)≠[]:=by
    obtain⟨as,b,e⟩:∃as b,BU c=as++[b]:=by
     rcases UP (BU c)with h|⟨a,b,e⟩
     ·exact absurd h d5
     ·exact⟨a,b,by rw[e,UQ]⟩
    rw[e,VN];intro h;have:=congrArg (Iu (·.1)) h;rw[Gc,Q5]at this;split at this
    ·rename_i q1;cases hz:CU c3.find as with
     |nil=>rw[hz]at q1;cases q1
     |cons y ys=>rw[hz]at this;cases this
    ·cases hz:CU c3.find as with
     |nil=>rw[hz]at this;cases this
     |cons y ys=>rw[hz]at this;cases this
   have a7:∀p∈CU c3.find (BU c),Ce a0 E (Y p.1)=some (.list (nats p.2)):=fun p hp=>by
    have nf:¬A8 c3 L3 (Y p.1):=fun f=>P3.foot f (X4.fr p hp);rw[Gl (fun q:Y p.1=E=>X4.te (by rw[←q];exact X4.fr p hp))];exact(F5.out (X4.at_ p hp) nf).1
   unfold MJ at q;generalize f0:CU c3.find (BU c)=g at*;refine AJ (CD (Bo B (MW w) Mp (Ab (Pw R.handled (Zde (AG r2 ⟨E,_,rfl,E1,by simpa using e2,f1,⟨_,_,rfl⟩,_,Zdi,by rw[AU,AU];exact ln (AK b1 a5) rfl,
    (fun v=>decide (1<(Hg (Ce a0 E) v).length)),(fun v=>.tup (Hg (Ce a0 E) v)),fun v hv C=>?_,fun v hv g9 C=>?_,fun D3 d4 h0=>?_⟩)) ()))))
   ·rw[Bx]at hv;refine AI (BD.mp hv) fun p hp c1=>?_;subst c1;have e:=a7 p hp;have hs:=b2 p hp;refine Bj (Bo B (Cb w) Ca (Ab (AG Ar (Cj e (by rw[AU];exact ln (AK hs a5) rfl) (BB (KW (BO ⟨?_,rfl⟩)))))));show _=decide (1<(Hg (Ce a0 E) (.ref (Y p.1))).length);rw[Qt e];exact decide_eq_decide.mpr (!A6 cS)
   ·rw[Bx]at hv;refine AI (BD.mp hv) fun p hp c9=>?_;subst c9;have e:=a7 p hp;have hs:=b2 p hp;refine FF B (JD w) Jg (Ab (AG Ar (Lj e (by rw[AU];exact ln (AK hs a5) rfl) ⟨?_,rfl⟩)));show _=AV.tup (Hg (Ce a0 E) (.ref (Y p.1)));rw[Qt e]
   ·have c8:((((g.map fun p=>((p.1:Int),AV.ref (Y p.1))).map (·.2)).filter fun v=>decide (1<(Hg (Ce a0 E) v).length)).map fun v=>AV.tup (Hg (Ce a0 E) v))=((g.filter fun p=>decide (1<p.2.length)).map fun p=>nats p.2).map .tup:=by
     rw[Bx,Js,Bx,Bx];have:g.filter ((fun v=>decide (1<(Hg (Ce a0 E) v).length))∘((·.2)∘fun p:Nat×List Nat=>((p.1:Int),AV.ref (Y p.1))))=g.filter fun p=>decide (1<p.2.length):=UN fun p hp=>by
      show decide (1<(Hg (Ce a0 E) (.ref (Y p.1))).length)=_;rw[Qt (a7 p hp),AU]
     rw[this];refine Dz fun p hp=>?_;show AV.tup (Hg (Ce a0 E) (.ref (Y p.1)))=_;rw[Qt (a7 p (Dn.mp hp).1)];rfl
    rw[c8];refine Zdz (Am _ _ _) (ks:=(g.filter fun p=>decide (1<p.2.length)).map fun p=>((p.2.head?.getD 0:Nat):Int)) (by rw[AU,AU]) (fun i ts k a1 a2=>?_) ?_ (by have:=OB (fun p:Nat×List Nat=>decide (1<p.2.length)) g;rw[AU];exact ln (AK (AK (CG this) (CG b1)) (CG a5)) rfl) fun D4 a8 h7=>?_
    ·rw[CK]at a1 a2;cases hz:(g.filter fun p=>decide (1<p.2.length))[i]? with
     |none=>rw[hz]at a1;cases a1
     |some p=>
      rw[hz]at a1 a2;obtain rfl:=Ao a1;obtain rfl:=Ao a2;have:=h2 p (Dn.mp (DE hz)).1;cases hq:p.2 with
      |nil=>exact absurd hq this
      |cons y ys=>show(nats p.2).head? =some (AV.int (p.2.head?.getD 0:Nat));rw[hq];rfl
    ·have:=(h1.sublist (Yz (p:=fun p:Nat×List Nat=>decide (1<p.2.length)) |>.map _));rw[show((g.filter fun p=>decide (1<p.2.length)).map fun p=>((p.2.head?.getD 0:Nat):Int))=((g.filter fun p=>decide (1<p.2.length)).map fun p=>(p.2.head?.getD 0)).map fun(n:Nat)=>(n:Int) by rw[Bx];rfl];exact Np.mpr (this.imp fun h=>!Al XX h)
    ·have n3:∀a,a0 a≠none→a≠E→a≠D3:=fun a h1 h2 e=>by subst e;rw[Gl h2]at d4;exact h1 d4
     have k6:∀a,a0 a≠none→a≠E→upd (upd (Ce a0 E) D3 (.list (((g.filter fun p=>decide (1<p.2.length)).map fun p=>nats p.2).map .tup))) D4 (.list (((g.filter fun p=>decide (1<p.2.length)).map fun p=>nats p.2).map .tup)) a=a0 a:=fun a h1 h2=>by
      have e3:=n3 a h1 h2;rw[Au _ _ (by rintro rfl;rw[Au _ _ e3,Gl h2]at a8;exact h1 a8),Au _ _ e3,Gl h2]
     refine AL (su P5 d6 c2 sE k6) fun P6 F6=>?_;refine q c3 _ L5 _ D4 m3 (e9 c5 e8) P6 F6 ?_ fun f=>?_
     ·rw[Am,Bx,f0,Bx];rfl
     ·have h1:=P5.foot f;have h2:D4≠E:=by rintro rfl;exact c2 f
      rw[Au _ _ (n3 D4 h1 h2),Gl h2]at a8;exact h1 a8
variable {env:Af} {ρ:AW}
abbrev GI(C:AB)(p q:Int):AO:=.dictS [("cells",.ref C),("spot",.int p),("stir",.int q)]
structure JX(σ:AA)(H C:AB)(cells:List Int)(p:Nat)(q:Int):Prop where
 h:σ H=some (GI C p q)
 c:σ C=some (.list (BH cells))
 ok:∀x∈cells,0≤x
 sz:cells.length≤1000
 q0:0≤q
 q1:q<1021
theorem gS:AH [(("cells":Str),AV.ref C),("spot",.int p),("stir",.int q)] "cells"=some (.ref C):=by rfl
theorem WV:AH [(("cells":Str),AV.ref C),("spot",.int p),("stir",.int q)] "spot"=some (.int p):=by rfl
theorem bp:AH [(("cells":Str),AV.ref C),("spot",.int p),("stir",.int q)] "stir"=some (.int q):=by rfl
theorem xB:AO.dictS (Av [(("cells":Str),AV.ref C),("spot",.int p),("stir",.int q)] "spot" (.int m))=GI C m q:=by rfl
theorem lB:AO.dictS (Av [(("cells":Str),AV.ref C),("spot",.int p),("stir",.int q)] "stir" (.int m))=GI C p m:=by rfl
theorem Ld{x k:Str}{p1 p2 p3:A3}{m:Nat}{H C:AB}{p q:Int}{v:AV}{Φ:AV→AA→Prop}(hx:ρ x=some (.ref H))(h:σ H=some (GI C p q))(hl:AH [(("cells":Str),AV.ref C),("spot",.int p),("stir",.int q)] k=some v)(n:Φ v σ)
  (h1:autoParam (Ck (env.kindOf x)=true) aR)(h2:autoParam (env.scope.kind=.function) aR)(hd:autoParam ((x==("__debug__":Str))=false) aD):EV A env (.Subscript (.Name x p1) (.Constant (.str k) m p2) p3) ρ σ Φ:=
 CV (AG hx (DJ ⟨⟨_,_,.dictS h⟩,DK.get (Zd w) h hl n⟩) h1 h2 hd)
theorem ii{x k:Str}{p1 p2 n:A3}{m:Nat}{H C:AB}{p q:Int}{v:AV}{Φ:AW→AA→Prop}(hx:ρ x=some (.ref H))(h:σ H=some (GI C p q))
  (k1:Φ ρ (upd σ H (.dictS (Av [(("cells":Str),AV.ref C),("spot",.int p),("stir",.int q)] k v))))
  (h1:autoParam (Ck (env.kindOf x)=true) aR)(h2:autoParam (env.scope.kind=.function) aR)(hd:autoParam ((x==("__debug__":Str))=false) aD):AQ A env (Fs (.Subscript (.Name x p1) (.Constant (.str k) m p2) n) env) v ρ σ Φ:=
 KZ (AG hx (DJ (DK.set (Zd w) h (!ld rfl) k1)) h1 h2 hd)
theorem Q0{a:Int}{m:Nat}(hm:0<m):∃r:Nat,r<m∧a.fmod m=(r:Int):=by
 have n:=Zfz a (show(0:Int)<m by exact A6 gm hm);have h2:=Int.fmod_lt_of_pos a (show(0:Int)<m by exact A6 gm hm);exact⟨(a.fmod m).toNat,!u7 n h2,!xp n⟩
theorem Wf(B:Aj)(R:Ah A 1){H C:AB}{cells:List Int}{p m:Nat}{q:Int}(X:JX σ H C cells p q)(hm:0<m)
  (k:∀r p' q' σ',r<m→(∀a,a≠H→σ' a=σ a)→JX σ' H C cells p' q'→Φ (.int (r:Nat)) σ'):AF A (.ref 528) [.ref H,.int m] σ Φ:=by
 have a0:C≠H:=by rintro e;have h1:=X.h;have h2:=X.c;rw[e,h1]at h2;exact(nomatch (Ao h2))
 have a1:((m:Nat):Int)≠0:=by exact A6 Zak hm
 refine AF.def (F:=(Rh w)) (names:=["hand","many"]) B R rfl (fun Lf=>?_) (DG fun zz zz=>rfl) rfl ∅
 ·refine AJ (BR (CH (Ld () X.h WV (BB (Jj (ii () X.h ?_))))));rw[xB];have s1:∀a,a≠H→upd σ H (GI C ((p:Int)+1) q) a=σ a:=fun a h=>Au _ _ h;have n:JX (upd σ H (GI C ((p:Int)+1) q)) H C cells (p+1) q:=⟨Am _ _ _,by rw[Au _ _ a0];exact X.c,X.ok,X.sz,X.q0,X.q1⟩;generalize upd σ H (GI C ((p:Int)+1) q)=σ1 at*;have sz:=X.sz;refine AJ (CP (Bj (Ld () n.h WV (Bo B (Cb w) Ca (Ab (Ld () n.h gS (Cj n.c (by rw[AU];exact ln sz rfl) (X8 (BO ?_)))))))));rw[AU];by_cases hp:p+1≤cells.length
  ·refine CQ (decide_eq_true (!Al w9 hp)) ?_;refine AJ (CD (CH (CV (Ld () n.h gS (CH (Ld () n.h WV (BB (NN ⟨⟨_,_,.list n.c⟩,En n.c (x:=.int (cells[p]'(!hp))) (!A6 lP) ?_ (!Al rf sz hp) (AG () (Pu a1 ?_))⟩))))))))
   ·rw[CK,show(((p+1:Nat):Int)-1).toNat=p by exact rp,Dy (!hp)];rfl
   ·refine AI (Q0 (a:=cells[p]'(!Al xw hp)) hm) fun r hr e=>?_;rw[e];exact k r _ _ σ1 hr s1 n
  ·refine Ba (decide_eq_false (!Al vI hp)) ?_;refine Ax ?_;have q0:=X.q0;have q1:=X.q1;refine AJ (BR (CH (CH (CH (Ld () n.h bp (BB (Zes (.of_right ⋯) (BB (Jj (BB (Pu ⋯ (ii () n.h ?_))))))))))));rw[lB];refine AI (Q0 (a:=q*29+13) (m:=1021) (!CZ bu)) fun r hr e=>?_;rw[show((q*29+13).fmod 1021)=(r:Int)from e];have s2:∀a,a≠H→upd σ1 H (GI C ((p+1:Nat):Int) r) a=σ a:=fun a h=>by rw[Au _ _ h,s1 a h]
   have X2:JX (upd σ1 H (GI C ((p+1:Nat):Int) r)) H C cells (p+1) r:=⟨Am _ _ _,by rw[Au _ _ a0];exact n.c,X.ok,X.sz,!A6 o0,!A6 eZ hr⟩;generalize upd σ1 H (GI C ((p+1:Nat):Int) r)=σ2 at*;refine AJ (CD (CH (CH (Ld () X2.h bp (BB (Ze0 ⋯ (!Zau hr) ⋯ (AG () (Pu a1 ?_))))))));refine AI (Q0 (a:=(r:Int).fdiv 3) hm) fun r2 a2 e2=>?_;rw[e2];exact k r2 _ _ σ2 a2 s2 X2
theorem WO(w:AD):Co (KK w) Bk "_law_pick"=some (some (.ref 528)):=∅
theorem xD(B:Aj)(R:Ah A 2)(X:JX σ H C cells p q)(hN:σ N=some (.list ns))(hn:0<ns.length)(hz:ns.length≤1000)
  (k:∀a b p' q' σ',a<ns.length→b<ns.length→(∀a,a≠H→σ' a=σ a)→JX σ' H C cells p' q'→Φ (.tup [.int (a:Nat),.int (b:Nat)]) σ'):AF A (.ref 535) [.ref H,.ref N] σ Φ:=by
 have a0:N≠H:=by rintro rfl;exact(nomatch (Ao ((X.h.symm.trans hN))))
 refine AF.def (F:=(eI w)) (names:=["hand","nodes"]) B R rfl (fun Lf=>?_) (DG fun zz zz=>rfl) rfl ∅
 ·refine AJ (BR (Hy B (WO w) (Rh w) (BX (AG () (Bo B (Cb w) Ca (Ab (AG () (Cj hN (!ln hz rfl) ?_))))))));refine Wf B (R.deeper _) X hn fun a p1 q1 m ha s1 X1=>A2 ?_;have a1:m N=some (.list ns):=by rw[s1 N a0];exact hN
  refine AJ (CD (Bw (BX (AG Ar (Hy B (WO w) (Rh w) (BX (AG (by rw[AP ⋯];rfl) (Bo B (Cb w) Ca (Ab (AG (by rw[AP ⋯];rfl) (Cj a1 (!ln hz rfl) ?_)))))))))));exact Wf B (R.deeper _) X1 hn fun b p2 q2 n a2 s2 X2=>⟨!ld rfl,k a b p2 q2 n ha a2 (fun a h=>by rw[s2 a h,s1 a h]) X2⟩
abbrev Aa(hs:List Nat)(i:Nat):Nat:=hs.getD i 0
def Cq(hs:List Nat)(nd:Nd):Nd:=(nd.1,nd.2.map (Aa hs))
inductive Di(E:Nat→Nat→Prop):List Nat→List Nat→Prop
 |nil:Di E [] []
 |cons {x y:Nat} {xs ys:List Nat}:E x y→Di E xs ys→Di E (x::xs) (y::ys)
structure La(nodes:List Nd)(pairs:List (Nat×Nat))(E:Nat→Nat→Prop):Prop where
 refl:∀i,E i i
 symm:∀i j,E i j→E j i
 trans:∀i j k,E i j→E j k→E i k
 told:∀p∈pairs,E p.1 p.2
 cong:∀i j m n,nodes[i]? =some m→nodes[j]? =some n→m.1=n.1→Di E m.2 n.2→E i j
structure Hm(nodes:List Nd)(pairs:List (Nat×Nat))(hs:List Nat):Prop where
 len:hs.length=nodes.length
 le:∀i,Aa hs i≤i
 idem:∀i,Aa hs (Aa hs i)=Aa hs i
 sound:∀E,La nodes pairs E→∀i<nodes.length,E i (Aa hs i)
def GE(hs:List Nat)(a b:Nat):List Nat:=hs.map fun z=>if z=max (Aa hs a) (Aa hs b)then min (Aa hs a) (Aa hs b)else z
theorem PT{hs:List Nat}{i:Nat}(h:i<hs.length):hs[i]? =some (Aa hs i):=by simp[Aa,h]
theorem dU(h:hs.length≤i):Aa hs i=0:=by simp[Aa,h]
theorem IJ(h:i<hs.length):Aa (GE hs a b) i=if Aa hs i=max (Aa hs a) (Aa hs b)then min (Aa hs a) (Aa hs b)else Aa hs i:=by
 unfold Aa GE;simp[h]
theorem Uh:(GE hs a b).length=hs.length:=by exact AU _
theorem tj(m:a<hs.length)(hb:b<hs.length):Aa (GE hs a b) a=Aa (GE hs a b) b:=by
 rw[IJ m,IJ hb];split<;>split<;>(first|exact bL|exact wM (by assumption)|exact l9 (by assumption)|exact rq (by assumption) (by assumption))
theorem zU(m:i<hs.length)(n:j<hs.length)(e:Aa hs i=Aa hs j):Aa (GE hs a b) i=Aa (GE hs a b) j:=by
 rw[IJ m,IJ n,e]
variable {nodes:List Nd} {pairs:List (Nat×Nat)} {hs:List Nat}
theorem Hm.lt(H:Hm nodes pairs hs)(h:i<hs.length):Aa hs i<hs.length:=Yh (H.le i) h
theorem Hm.merge(H:Hm nodes pairs hs)(ha:a<nodes.length)(hb:b<nodes.length)(hE:∀E,La nodes pairs E→E a b):Hm nodes pairs (GE hs a b):=by
 have m:a<hs.length:=by rw[H.len];exact ha
 have n:b<hs.length:=by rw[H.len];exact hb
 refine⟨by rw[Uh];exact H.len,fun i=>?_,fun i=>?_,fun E C i hi=>?_⟩
 ·by_cases h:i<hs.length
  ·rw[IJ h];have:=H.le i;split<;>(first|exact mq this (by assumption)|exact vb this)
  ·rw[dU (by rw[Uh];exact EU h)];exact Be _
 ·by_cases h:i<hs.length
  ·have h1:=H.idem i;have h2:=H.idem a;have h3:=H.idem b;have h4:=H.lt h;have h5:=H.lt m;have h6:=H.lt n;rw[IJ h];split
   ·have e:Aa hs (min (Aa hs a) (Aa hs b))=min (Aa hs a) (Aa hs b):=by
     rcases Ni (Aa hs a) (Aa hs b)with q|q
     ·rw[Tf q];exact h2
     ·rw[Tg q];exact h3
    rw[IJ (!rM h6),e];split<;>exact bL
   ·rw[IJ h4,h1];split<;>(first|exact qQ (by assumption) (by assumption)|exact A6 zu)
  ·have e:Aa (GE hs a b) i=0:=dU (by rw[Uh];exact EU h);rw[e];have h0:0<hs.length:=by exact Al rU m
   rw[IJ h0];have:=H.le 0;split<;>(first|exact sY this (by assumption)|exact A6 kb this)
 ·have a0:i<hs.length:=by rw[H.len];exact hi
  have s1:=H.sound E C i hi;rw[IJ a0];split
  ·rename_i q;have e1:=H.sound E C a ha;have e2:=H.sound E C b hb;have e3:=hE E C;have ab:E (Aa hs a) (Aa hs b):=C.trans _ _ _ (C.symm _ _ e1) (C.trans _ _ _ e3 e2);rw[q]at s1;refine C.trans _ _ _ s1 ?_;rcases Ni (Aa hs a) (Aa hs b)with q|q
   ·rw[Tf q,Th q];exact C.symm _ _ ab
   ·rw[Tg q,Ti q];exact ab
  ·exact s1
theorem aP:∀{xs:List Nat},(∀x∈xs,f x≤x)→(xs.map f).sum≤xs.sum:=by
 intro xs
 induction xs with
 |nil=>
  intro _;exact A9 _
 |cons x xs m=>
  intro h;have h1:=h x (.head _);have n:=m fun y hy=>h y (.tail _ hy);simp only[CF,j6];exact Cf cO h1 n
theorem Zbd{f:Nat→Nat}{xs:List Nat}{z:Nat}:(∀x∈xs,f x≤x)→z∈xs→f z<z→(xs.map f).sum<xs.sum:=by
 induction xs with
 |nil=>exact fun zz m=>nomatch m
 |cons x xs ih=>
  intro h m q;have h2:=aP (xs:=xs) fun y n=>h y (.tail _ n);rw[CF,j6,j6];rcases A7.mp m with rfl|m
  ·exact Cf xG q h2
  ·exact Cf mH (h x (.head _)) (ih (fun y n=>h y (.tail _ n)) m q)
theorem wP(a b:Nat):(GE hs a b).sum≤hs.sum:=aP fun x m=>by split<;>(first|exact ZS (by assumption)|exact WL)
theorem pV(ha:a<hs.length)(hb:b<hs.length)(m:Aa hs a≠Aa hs b):(GE hs a b).sum<hs.sum:=by
 have ma:=DE (PT ha);have n:=DE (PT hb);refine Zbd (z:=max (Aa hs a) (Aa hs b)) (fun x zz=>by split<;>(first|exact ZS (by assumption)|exact WL)) ?_ (by rw[if_pos rfl];exact gt m)
 rcases Ni (Aa hs a) (Aa hs b)with q|q
 ·rw[Th q];exact n
 ·rw[Ti q];exact ma
abbrev FQ(hs:List Nat)(late:List (Nat×Nat)):List Nat:=late.foldl (fun hs p=>GE hs p.1 p.2) hs
theorem R9:∀{late:List (Nat×Nat)}{hs:List Nat},Hm nodes pairs hs→(∀p∈late,p.1<nodes.length∧p.2<nodes.length∧∀E,La nodes pairs E→E p.1 p.2)→
  Hm nodes pairs (FQ hs late)∧(∀i j,i<nodes.length→j<nodes.length→Aa hs i=Aa hs j→Aa (FQ hs late) i=Aa (FQ hs late) j)∧(∀p∈late,Aa (FQ hs late) p.1=Aa (FQ hs late) p.2)∧(FQ hs late).sum≤hs.sum:=by
 intro late
 induction late with
 |nil=>
  intro hs H _;exact⟨H,fun zz zz zz zz e=>e,by simp,A9 _⟩
 |cons p late a0=>
  intro hs H h;refine BN (h p (.head _)) fun p1 p2 p3=>?_;have n:=H.len;refine Bv (a0 (H.merge p1 p2 p3) fun r m=>h r (.tail _ m)) fun a1 a2 a3 a4=>?_;refine⟨a1,fun i j hi hj e=>a2 i j hi hj (zU (!AK hi (Ac n.symm)) (!AK hj (Ac n.symm)) e),fun r m=>?_,AK a4 (wP _ _)⟩;rcases A7.mp m with rfl|m
  ·exact a2 _ _ p1 p2 (tj (!AK p1 (Ac n.symm)) (!AK p2 (Ac n.symm)))
  ·exact a3 r m
theorem sH(H:Hm nodes pairs hs)(h:∀r∈p::late,r.1<nodes.length∧r.2<nodes.length∧∀E,La nodes pairs E→E r.1 r.2)(ne:Aa hs p.1≠Aa hs p.2):(FQ hs (p::late)).sum<hs.sum:=by
 refine BN (h p (.head _)) fun m p2 p3=>?_;have n:=H.len;refine Bv (R9 (late:=late) (H.merge m p2 p3) fun r hr=>h r (.tail _ hr)) fun zz zz zz a4=>?_;exact Yh a4 (pV (!AK m (Ac n.symm)) (!AK p2 (Ac n.symm)) ne)
abbrev Ez(hs:List Nat)(F:List (Nd×Nat))(n:Nat)(nd:Nd):Nat:=(AH F (Cq hs nd)).getD n
abbrev MK(hs:List Nat)(s:List (Nd×Nat)×List (Nat×Nat))(n:Nat)(nd:Nd):List (Nd×Nat)×List (Nat×Nat):=
 (if(AH s.1 (Cq hs nd)).isSome=true then s.1 else Av s.1 (Cq hs nd) n,if Aa hs (Ez hs s.1 n nd)=Aa hs n then s.2 else s.2++[(Ez hs s.1 n nd,n)])
structure LX(nodes:List Nd)(hs:List Nat)(i:Nat)(s:List (Nd×Nat)×List (Nat×Nat)):Prop where
 a:∀j<i,∀nd,nodes[j]? =some nd→∃f,AH s.1 (Cq hs nd)=some f∧(Aa hs f=Aa hs j∨(f,j)∈s.2)
 b:∀k f,AH s.1 k=some f→f<i∧∃nd,nodes[f]? =some nd∧Cq hs nd=k
 d:∀p∈s.2,p.1<nodes.length∧p.2<nodes.length∧Aa hs p.1≠Aa hs p.2∧∃m n,nodes[p.1]? =some m∧nodes[p.2]? =some n∧Cq hs m=Cq hs n
 z:s.1.length≤i∧s.2.length≤i
theorem LX.zero:LX nodes hs 0 ([],[]):=⟨fun j m=>absurd m (Lq _),fun k f e=>(nomatch e),fun p hp=>(nomatch hp),A9 _,A9 _⟩
theorem LX.step{i:Nat}{s:List (Nd×Nat)×List (Nat×Nat)}{nd:Nd}(S:LX nodes hs i s)(e:nodes[i]? =some nd):LX nodes hs (i+1) (MK hs s i nd):=by
 have hi:=(BY.mp e).1;have a0:∀k f,AH s.1 k=some f→AH (MK hs s i nd).1 k=some f:=fun k f q=>by
  show AH (if _ then _ else _) k=_;split
  ·exact q
  ·rename_i h;rw[Dt];split
   ·rename_i h2;rw[h2,Zg0.mp h]at q;exact As q
   ·exact q
 have late:∀p∈s.2,p∈(MK hs s i nd).2:=fun p hp=>by
  show p∈(if _ then _ else _);split
  ·exact hp
  ·exact Jo _ hp
 have look:AH (MK hs s i nd).1 (Cq hs nd)=some (Ez hs s.1 i nd):=by
  show AH (if _ then _ else _) _=some ((AH s.1 (Cq hs nd)).getD i);cases q:AH s.1 (Cq hs nd)with
  |some f=>show AH s.1 _=_;rw[q];rfl
  |none=>show AH (Av s.1 _ i) _=_;rw[Dt,if_pos rfl];rfl
 have a2:∃m,nodes[Ez hs s.1 i nd]? =some m∧Cq hs m=Cq hs nd:=by
  cases q:AH s.1 (Cq hs nd)with
  |some f=>refine Rt (S.b _ _ q) fun _ m e1 e2=>?_;exact⟨m,by rw[Ez,q];exact e1,e2⟩
  |none=>exact⟨nd,by rw[Ez,q];exact e,rfl⟩
 refine⟨fun j hj a1 e'=>?_,fun k f q=>?_,fun p hp=>?_,?_⟩
 ·by_cases h:j=i
  ·subst h;obtain rfl:=Ao ((e.symm.trans e'));refine⟨_,look,?_⟩;show _∨_∈(if Aa hs (Ez hs s.1 j nd)=Aa hs j then s.2 else s.2++[(Ez hs s.1 j nd,j)]);split
   ·rename_i q;exact .inl q
   ·exact .inr (Ek _ (Ap.mpr rfl))
  ·refine AI (S.a j (!Al Wl hj h) a1 e') fun f n q2=>?_;exact⟨f,a0 _ _ n,q2.imp id (late _)⟩
 ·change AH (if _ then _ else _) k=_ at q;split at q
  ·refine AL (S.b k f q) fun n q2=>?_;exact⟨!Ga n,q2⟩
  ·rw[Dt]at q;split at q
   ·rename_i h;obtain rfl:=Ao q;exact⟨!A9 _,nd,e,h.symm⟩
   ·refine AL (S.b k f q) fun n q2=>?_;exact⟨!Ga n,q2⟩
 ·change p∈(if Aa hs (Ez hs s.1 i nd)=Aa hs i then s.2 else s.2++[(Ez hs s.1 i nd,i)])at hp;split at hp
  ·exact S.d p hp
  ·rename_i h;rcases CE.mp hp with hp|hp
   ·exact S.d p hp
   ·rw[Ap.mp hp];refine AI a2 fun m e1 e2=>?_;exact⟨(BY.mp e1).1,hi,h,m,nd,e1,e,e2⟩
 ·refine AL S.z fun z1 z2=>?_;refine⟨?_,?_⟩
  ·show j0 (if _ then _ else _)≤_;split
   ·exact Ga z1
   ·rename_i h;rw[PK (Zg0.mp h),BJ];simp;exact z1
  ·show j0 (if _ then _ else _)≤_;split
   ·exact Ga z2
   ·rw[BJ];simp;exact z2
theorem yQ(H:Hm nodes pairs hs)(C:La nodes pairs E)(hk:∀nd∈nodes,∀k∈nd.2,k<nodes.length)(e1:nodes[i]? =some m)(e2:nodes[j]? =some n)(e:Cq hs m=Cq hs n):E i j:=by
 have s1:=congrArg Prod.fst e;have s2:m.2.map (Aa hs)=n.2.map (Aa hs):=congrArg Prod.snd e;refine C.cong i j m n e1 e2 s1 ?_;have k1:=hk m (DE e1);have k2:=hk n (DE e2);clear e1 e2 e s1;generalize m.2=xs at*;generalize n.2=ys at*
 induction xs generalizing ys with
 |nil=>cases ys with
  |nil=>exact .nil
  |cons y ys=>cases s2
 |cons x xs ih=>cases ys with
  |nil=>cases s2
  |cons y ys=>
   rw[CF,CF,Qc]at s2;refine .cons ?_ (ih (fun k hk=>k1 k (.tail _ hk)) ys (fun k hk=>k2 k (.tail _ hk)) s2.2);have a1:=H.sound E C x (k1 x (.head _));have a2:=H.sound E C y (k2 y (.head _));rw[s2.1]at a1;exact C.trans _ _ _ a1 (C.symm _ _ a2)
structure MU(nodes:List Nd)(pairs:List (Nat×Nat))(hs:List Nat):Prop extends Hm nodes pairs hs where
 told:∀p∈pairs,Aa hs p.1=Aa hs p.2
 cong:∀(i j:Nat) m n,nodes[i]? =some m→nodes[j]? =some n→Cq hs m=Cq hs n→Aa hs i=Aa hs j
end
section
variable {σ σ' τ:AA} {A:AX} {env:Af} {ρ:AW} {nodes:List Nd} {pairs:List (Nat×Nat)} {hs:List Nat}
structure JO(nodes:List Nd)(pairs:List (Nat×Nat))(hs:List Nat)(late:List (Nat×Nat))(m:Nat):Prop where
 inv:Hm nodes pairs hs
 lt:∀p∈late,p.1<nodes.length∧p.2<nodes.length∧∀E,La nodes pairs E→E p.1 p.2
 sz:late.length≤1000
 alt:(late=pairs∧hs=B6 nodes.length∧hs.sum+1=m)∨(hs.sum=m∧(∀p∈late,Aa hs p.1≠Aa hs p.2)∧(∀p∈pairs,Aa hs p.1=Aa hs p.2)∧(late=[]→∀(i j:Nat) m n,nodes[i]? =some m→nodes[j]? =some n→Cq hs m=Cq hs n→Aa hs i=Aa hs j))
theorem Zee(hp:∀p∈pairs,p.1<nodes.length∧p.2<nodes.length)(m:pairs.length≤1000):JO nodes pairs (B6 nodes.length) pairs ((B6 nodes.length).sum+1):=by
 have a:∀i,Aa (B6 nodes.length) i=if i<nodes.length then i else 0:=fun i=>by
  unfold Aa;by_cases h:i<nodes.length<;>simp[h]
 refine⟨⟨MF,fun i=>?_,fun i=>?_,fun E C i n=>?_⟩,fun p h=>⟨(hp p h).1,(hp p h).2,fun E C=>C.told p h⟩,m,.inl ⟨rfl,rfl,rfl⟩⟩
 ·rw[a];split<;>(first|exact WL|exact A6 pK)
 ·rw[a i];split
  ·rename_i h;rw[a,if_pos h]
  ·rw[a];split<;>rfl
 ·rw[a,if_pos n];exact C.refl i
theorem JO.done(W:JO nodes pairs hs [] m)(hd:nodes.Nodup)(hk:∀nd∈nodes,∀k∈nd.2,k<nodes.length):MU nodes pairs hs:=by
 rcases W.alt with⟨e1,e2,_⟩|⟨_,_,h2,h3⟩
 ·refine⟨W.inv,fun p hp=>(by rw[←e1]at hp;cases hp),fun i j x y hi hj e=>?_⟩;have id:∀z∈nodes,Cq hs z=z:=fun z hz=>by
   unfold Cq;refine Prod.ext rfl ?_;show z.2.map (Aa hs)=z.2;refine Eq.trans (Dz fun k n=>?_) (Qe _);have:=hk z hz k n;rw[e2];simp[Aa,this]
  rw[id x (DE hi),id y (DE hj)]at e;subst e;have a0:=BY.mp hi;have a3:=BY.mp hj;refine AY a0 fun a1 a2=>?_;refine AY a3 fun b1 b2=>?_;have:i=j:=(List.getElem_inj hd).mp (a2.trans b2.symm);rw[this]
 ·exact⟨W.inv,h2,h3 rfl⟩
theorem JO.round{m:Nat}{late:List (Nat×Nat)}{s:List (Nd×Nat)×List (Nat×Nat)}(W:JO nodes pairs hs late m)(a5:late≠[])(hk:∀nd∈nodes,∀k∈nd.2,k<nodes.length)(hz:nodes.length≤1000)
  (hp:∀p∈pairs,p.1<nodes.length∧p.2<nodes.length)(S:LX nodes (FQ hs late) nodes.length s):JO nodes pairs (FQ hs late) s.2 (FQ hs late).sum∧(FQ hs late).sum<m:=by
 refine Bv (R9 W.inv W.lt) fun a1 a2 a3 a4=>?_;refine⟨⟨a1,fun p hp=>?_,AK S.z.2 hz,.inr ⟨rfl,fun p hp=>(S.d p hp).2.2.1,fun p n=>?_,fun h i j x y hi hj e=>?_⟩⟩,?_⟩
 ·refine Bv (S.d p hp) fun d1 d2 zz a0=>FN a0 fun x y d4 d5 d6=>?_;exact⟨d1,d2,fun E C=>yQ a1 C hk d4 d5 d6⟩
 ·rcases W.alt with⟨e1,_,_⟩|⟨_,_,h2,_⟩
  ·exact a3 p (by rw[e1];exact n)
  ·exact a2 _ _ (hp p n).1 (hp p n).2 (h2 p n)
 ·refine AI (S.a i (BY.mp hi).1 x hi) fun f f1 f2=>?_;refine AI (S.a j (BY.mp hj).1 y hj) fun g g1 g2=>?_;rw[h]at f2 g2;rw[e,g1]at f1;obtain rfl:=Ao f1;rcases f2 with f2|f2
  ·rcases g2 with g2|g2
   ·rw[←f2,←g2]
   ·cases g2
  ·cases f2
 ·rcases W.alt with⟨_,_,e⟩|⟨e,h1,_,_⟩
  ·exact AK (CG a4) (Ac e)
  ·cases late with
   |nil=>exact absurd rfl a5
   |cons p r=>rw[←e];exact sH W.inv W.lt (h1 p (.head _))
theorem J2{i:Nat}(h:i<ns.length):(nats ns)[((i:Int)).toNat]? =some (.int (Aa ns i:Nat)):=by
 rw[EW,CK,PT h];rfl
theorem xo{ps:List (Nat×Nat)}{i:Nat}(h:(A1 (ps.map Ay))[i]? =some x):∃p,ps[i]? =some p∧x=Vw (Ay p):=by
 rw[CK,CK]at h;cases m:ps[i]? with
 |none=>rw[m]at h;cases h
 |some p=>rw[m]at h;exact⟨p,rfl,(Ao h).symm⟩
theorem tW{ps:List (Nat×Nat)}(h:(A1 (ps.map Ay))[i]? =none):ps.length≤i:=by
 have:=Gb.mp h;simpa using this
theorem FY(h:y≠(".0":Str)):EM ρ y=ρ y:=if_neg h
theorem Z1(w:AD):Co (KK w) Bk "_law_homes"=some (some (.ref 540)):=∅
theorem yA(w:AD):Co (KK w) Bk "enumerate"=some none:=∅
theorem ql:Gy "enumerate"=some (.type "enumerate"):=∅
abbrev CN(nodes:List Nd):List AV:=nodes.map fun n=>B1 n.key
theorem oh(ps:List (Nat×Nat)):DAs σ (A1 (ps.map Ay)) (ps.map fun p=>.tuple [.int (p.1:Nat),.int (p.2:Nat)]):=by
 induction ps with
 |nil=>exact .nil
 |cons p ps m=>exact .cons (.tup (.cons (.int _) (.cons (.int _) .nil))) m
theorem mc(ps:List (Nat×Nat)):Iq (.list (ps.map fun p=>.tuple [.int (p.1:Nat),.int (p.2:Nat)]))=true:=by
 have h:Zg1 (ps.map fun p=>PyData.tuple [.int (p.1:Nat),.int (p.2:Nat)])=true∧jc (ps.map fun p=>PyData.tuple [.int (p.1:Nat),.int (p.2:Nat)])≤1:=by
  induction ps with
  |nil=>exact⋯
  |cons p ps m=>simp only[CF,Zg1,jd,jc,PyData.depth,m.1,Bool.and_self,true_and];have:=m.2;exact Nat.max_le.mpr ⟨A9 _,this⟩
 unfold Iq;rw[Fq,decide_eq_true_eq];refine⟨by simp only[jd];exact h.1,?_⟩;have:=h.2;simp only[PyData.depth];exact ln (CG this) rfl
theorem Zdv(R:Ah A 4)(hx:ρ x=some (.ref m))(h:σ m=some (.list (A1 (ps.map Ay))))(q:∀σ',An σ σ'→Φ (decide (ps≠[])) σ')
  (h1:autoParam (Ck (env.kindOf x)=true) aR)(h2:autoParam (env.scope.kind=.function) aR)(hd:autoParam ((x==("__debug__":Str))=false) aD):TR A env (.Compare (.Name x p1) [.NotEq] [.List [] p2] p3) ρ σ Φ:=by
 refine Bj (AG hx (Da (AC.nil ⟨by simp,fun D nD nb=>?_⟩)) h1 h2 hd);have n:An σ (upd σ D (.list [])):=.new nD;have h':upd σ D (.list []) m=some (.list (A1 (ps.map Ay))):=by rw[n m (by rw[h];simp)];exact h
 refine Xn R (.list h' (oh ps)) (.list (Am _ _ _) .nil) (mc ps) ⋯ (BO ?_);have:=q _ n;cases ps with
 |nil=>exact this
 |cons p ps=>exact this
theorem Zep(hu:A.in1.units<H0)(e:σ d=some (.dictT es))(n1:d≠1)(hz:es.length≤100000)
  (q:∀m,((AH es k).isSome=true∧m=σ∨AH es k=none∧m=upd σ d (.dictT (Av es k x)))→Φ ((AH es k).getD x) m):AF A (.builtin "dict.setdefault") [.ref d,B1 k,x] σ Φ:=
 iX hu e n1 hz (fun y n=>by have:=q σ (.inl ⟨by rw[n];rfl,rfl⟩);rw[n]at this;exact this) fun n=>by have:=q _ (.inr ⟨n,rfl⟩);rw[n]at this;exact this
set_option maxHeartbeats 1000000 in
def WT(σ:AA)(A:AX)(nodes:List Nd)(pairs:List (Nat×Nat))(N:AB)(m:AB)(Φ:AV→AA→Prop):Prop:=∀(B:Aj)(R:Ah A 5)(hN:σ N=some (.list (CN nodes)))(hP:σ m=some (.list (A1 (pairs.map Ay))))(hd:nodes.Nodup)(hk:∀nd∈nodes,∀k∈nd.2,k<nodes.length)(a0:∀nd∈nodes,nd.2.length≤100)(hp:∀p∈pairs,p.1<nodes.length∧p.2<nodes.length)(hz:nodes.length≤60)(n:pairs.length≤900)(q:∀D hs σ',An σ σ'→σ D=none→σ' D=some (.list (nats hs))→MU nodes pairs hs→Φ (.ref D) σ'),AF A (.ref 540) [.ref N,.ref m] σ Φ
def dy:((AA×AX)×(List Nd×(List (Nat×Nat))))×((AB×AB)×(AV→AA→Prop))→Prop:=fun t=>WT t.1.1.1 t.1.1.2 t.1.2.1 t.1.2.2 t.2.1.1 t.2.1.2 t.2.2
def Kt:=zE dy ((((fun _=>none),{}),([],[])),((0,0),(fun _ _=>True)))
def ED:=Kt.1.1.1
def u9:=Kt.1.1.2
def EH:=Kt.1.2.1
def Kr:=Kt.1.2.2
def Ml:=Kt.2.1.1
def oV:=Kt.2.1.2
def kS:=Kt.2.2
set_option maxHeartbeats 1000000 in
theorem nM:WT ED u9 EH Kr Ml oV kS:=fun B R hN hP hd hk k7 hp hz k1 q=>by
 refine GU (F:=(Ua w)) (names:=["nodes","pairs"]) B R rfl (fun Lf=>?_) (DG fun zz zz=>rfl) rfl ∅
 ·refine AJ (BR (Bw (BX (Zen R.handled (Fl B (JR w) Jc ⟨rfl,Fl B (Jf w) JS ⟨rfl,Ab (Bo B (Cb w) Ca (Ab (AG () (Cj hN (by rw[AU];exact ln hz rfl)
   ⟨EH.length,by rw[AU],!A6 Zc1 hz,fun D nD nb=>FF B (JR w) Jc (Ab (AG () (KY (by rw[Au _ _ (by rintro rfl;exact As ((nD.symm.trans hP)))];exact hP) (by rw[AU,AU];exact A6 pf k1) fun D2 b5 n4=>⟨by simp,?_⟩)))⟩))))⟩ ⋯ () () () ()⟩ ⋯ () () () ())))))
  refine FB R.handled (.tup _) rfl (BZ (A2 (BZ (A2 (Dm ?_)))));have x1:An ED (upd (upd ED D (.list (BH ((B6 EH.length).map fun(i:Nat)=>(i:Int))))) D2 (.list (A1 (Kr.map Ay)))):=(An.new nD).trans (.new b5);have e2:upd (upd ED D (.list (BH ((B6 EH.length).map fun(i:Nat)=>(i:Int))))) D2 (.list (A1 (Kr.map Ay))) D2=some (.list (A1 (Kr.map Ay))):=Am _ _ _;have e1:upd (upd ED D (.list (BH ((B6 EH.length).map fun(i:Nat)=>(i:Int))))) D2 (.list (A1 (Kr.map Ay))) D=some (.list (nats (B6 EH.length))):=by
   rw[Au _ _ (by rintro rfl;rw[Am]at b5;cases b5),Am,Sl]
  have k6:ED D2=none:=by
   cases z:ED D2 with
   |none=>rfl
   |some v=>have:=An.new (x:=.list (BH ((B6 EH.length).map fun(i:Nat)=>(i:Int)))) nD D2 (by rw[z];exact Ag _);rw[b5,z]at this;exact As this
  generalize upd (upd ED D (.list (BH ((B6 EH.length).map fun(i:Nat)=>(i:Int))))) D2 (.list (A1 (Kr.map Ay)))=σ1 at*;refine AJ (Ll (fun m ρ' σ'=>∃hs late Dh Dl,JO EH Kr hs late m∧An ED σ'∧ρ' "nodes"=some (.ref Ml)∧ρ' "homes"=some (.ref Dh)∧ρ' "late"=some (.ref Dl)∧σ' Dh=some (.list (nats hs))∧σ' Dl=some (.list (A1 (late.map Ay)))∧ED Dh=none∧ED Dl=none)
   ((B6 EH.length).sum+1) ⟨_,_,D,D2,Zee hp (!ln k1 rfl),x1,by rfl,by rfl,by rfl,e1,e2,nD,k6⟩ ?_)
  rintro m n5 o3 ⟨hs,late,Dh,Dl,W,x2,r1,r2,r3,f1,f2,s1,s2⟩;refine Zdv (R.deeper _) r3 f2 fun d5 x3=>?_;have i1:=x2.trans x3;have k3:d5 Dh=some (.list (nats hs)):=by rw[x3 Dh (by rw[f1];exact Ag _)];exact f1
  have f0:d5 Dl=some (.list (A1 (late.map Ay))):=by rw[x3 Dl (by rw[f2];exact Ag _)];exact f2
  by_cases d6:late=[]
  ·subst d6;refine Ba (decide_eq_false (!nofun)) ?_;exact AJ (CD (AG r2 (q Dh hs d5 i1 s1 k3 (W.done hd hk))))
  ·refine CQ (decide_eq_true d6) ?_;have lz:=W.sz;refine AJ (Gs R.handled (FA (AG r3 ⟨_,_,rfl,f0,trivial,trivial,late.length,fun i ρ' σ'=>i≤late.length∧An ED σ'∧ρ' "nodes"=some (.ref Ml)∧σ' Dl=some (.list (A1 (late.map Ay)))∧∃e3,ρ' "homes"=some (.ref e3)∧σ' e3=some (.list (nats (FQ hs (late.take i))))∧ED e3=none,
    ⟨!Be _,i1,r1,f0,Dh,r2,k3,s1⟩,?_⟩)))
   rintro i n2 a6 ⟨hi,x4,r4,f4,a0,r5,f5,s5⟩;refine⟨hi,_,⟨_,f4,rfl⟩,?_⟩;cases hq:(A1 (late.map Ay))[i]? with
   |some x=>
    refine AI (xo hq) fun p e4 h0=>?_;subst h0;refine Bv (R9 W.inv (late:=late.take i) fun r hr=>W.lt r (Zg2 hr)) fun I4 zz zz zz=>?_;have m3:FQ hs (late.take (i+1))=GE (FQ hs (late.take i)) p.1 p.2:=by rw[G4,e4];show List.foldl _ _ _=_;rw[Qg];rfl
    refine BN (W.lt p (DE e4)) fun pa pb zz=>?_;have c8:=I4.len;have m8:=(BY.mp e4).1;generalize FQ hs (late.take i)=hs4 at*;refine FB R.handled (.tup _) rfl (BZ (A2 (BZ (A2 (Dm ?_)))));have d3:put (put n2 "a" (.int p.1)) "b" (.int p.2) "homes"=some (.ref a0):=by rw[AP ⋯,AP ⋯];exact r5
    refine AJ (BR (Bo B (MW w) Mp (Ab (Da (BX
     (CV (AG d3 (AG (show(_:Option AV)=some (.int ((p.1:Nat):Int)) by rw[AP ⋯];exact Ar) ⟨⟨_,_,.list f5⟩,En f5 (!A6 o0) (J2 (!AK pa (Ac c8.symm))) (!Al o4 hz pa) ?_⟩))))))))
    refine CV (AG d3 (AG (show(_:Option AV)=some (.int ((p.2:Nat):Int))from Ar) ⟨⟨_,_,.list f5⟩,En f5 (!A6 o0) (J2 (!AK pb (Ac c8.symm))) (!Al o4 hz pb) ⟨!ld rfl,fun D5 a5 k5=>?_⟩⟩));refine TL (is:=[(Aa hs4 p.1:Nat),(Aa hs4 p.2:Nat)]) (Am _ _ _) (!ld rfl) fun js n3 n0 D6 k8 p1=>?_;have hj:=VM n3 n0;subst hj;refine FB R.handled (.list (Am _ _ _)) rfl (BZ (A2 (BZ (A2 (Dm ?_)))));have x5:An a6 (upd (upd a6 D5 (.list [.int (Aa hs4 p.1:Nat),.int (Aa hs4 p.2:Nat)])) D6 (.list (BH [((min (Aa hs4 p.1) (Aa hs4 p.2):Nat):Int),((max (Aa hs4 p.1) (Aa hs4 p.2):Nat):Int)]))):=(An.new a5).trans (.new k8);generalize upd (upd a6 D5 (.list [.int (Aa hs4 p.1:Nat),.int (Aa hs4 p.2:Nat)])) D6 (.list (BH [((min (Aa hs4 p.1) (Aa hs4 p.2):Nat):Int),((max (Aa hs4 p.1) (Aa hs4 p.2):Nat):Int)]))=σ5 at*;have b4:σ5 a0=some (.list (nats hs4)):=by rw[x5 a0 (by rw[f5];exact Ag _)];exact f5
    refine AJ (BR (QE R.handled (FA (AG (by rw[AP ⋯,AP ⋯];exact d3) ⟨_,_,rfl,b4,trivial,nats hs4,QB b4,by rw[AU];exact ln (AK (Ac c8) hz) rfl,fun v=>match v with|.int z=>.int ((if z.toNat=max (Aa hs4 p.1) (Aa hs4 p.2)then min (Aa hs4 p.1) (Aa hs4 p.2)else z.toNat:Nat))|v=>v,fun v hv C=>?_,fun D7 c4 l0=>?_⟩)) ()))
    ·refine AI (BD.mp hv) fun z hz i2=>?_;subst i2;refine NY (Bj (AG Ar (AG (by rw[AP ⋯,FY ⋯];exact Ar) (HP (BO ?_)))));by_cases b7:z=max (Aa hs4 p.1) (Aa hs4 p.2)
     ·refine CQ (decide_eq_true (!Zcl b7)) ?_;refine AG (by rw[AP ⋯,FY ⋯,AP ⋯];exact Ar) ⟨?_,rfl⟩;show _=AV.int ((if(z:Int).toNat=_ then _ else _:Nat));rw[EW,if_pos b7]
     ·refine Ba (decide_eq_false (!xk b7)) ?_;refine AG Ar ⟨?_,rfl⟩;show _=AV.int ((if(z:Int).toNat=_ then _ else _:Nat));rw[EW,if_neg b7]
    ·refine A2 (Ax ?_);have x7:An σ5 (upd σ5 D7 (.list ((nats hs4).map fun v=>match v with|.int z=>.int ((if z.toNat=max (Aa hs4 p.1) (Aa hs4 p.2)then min (Aa hs4 p.1) (Aa hs4 p.2)else z.toNat:Nat))|v=>v))):=.new c4
     refine⟨!m8,(x4.trans x5).trans x7,?_,?_,D7,Ar,?_,?_⟩
     ·rw[AP ⋯,AP ⋯,AP ⋯,AP ⋯,AP ⋯];exact r4
     ·rw[(x5.trans x7) Dl (by rw[f4];exact Ag _)];exact f4
     ·rw[Am,m3,Bx];unfold GE;show _=some (AO.list ((Iu _ hs4).map _));rw[Bx];refine congrArg (fun x=>some (AO.list x)) (Dz fun z zz=>?_);show AV.int ((if(z:Int).toNat=_ then _ else _:Nat))=_;rw[EW];rfl
     ·cases z:ED D7 with
      |none=>rfl
      |some v=>have:=(x4.trans x5) D7 (by rw[z];exact Ag _);rw[c4,z]at this;exact As this
   |none=>
    have m4:=tW hq;rw[Io m4]at f5;refine AJ (NR (names:=["firsts","late"]) R.handled () (Bw (BX (TN B (UW w) fun E nE p0 E1=>Da (AC.nil ⟨!Be _,fun D5 a5 k5=>⟨!ld rfl,_,.tup _,rfl,BZ (GW () (BZ (GW () (Dm ?_))))⟩⟩)))));have x5:An a6 (upd (upd a6 E (.dictT [])) D5 (.list [])):=(An.new nE).trans (.new a5);have e5:upd (upd a6 E (.dictT [])) D5 (.list []) D5=some (.list []):=Am _ _ _;have g0:E≠D5:=by rintro rfl;rw[Am]at a5;cases a5
    have e6:upd (upd a6 E (.dictT [])) D5 (.list []) E=some (.dictT []):=by rw[Au _ _ g0,Am]
    have fr:∀{a:AB},a6 a=none→ED a=none:=fun{a} h=>by
     cases z:ED a with
     |none=>rfl
     |some v=>have:=x4 a (by rw[z];exact Ag _);rw[h,z]at this;exact As this
    have sE:=fr nE;have e9:ED D5=none:=fr (by rw[Au _ _ (Ne.symm g0)]at a5;exact a5);have l3:D5≠a0:=by rintro rfl;rw[(An.new (x:=.dictT []) nE) D5 (by rw[f5];exact Ag _),f5]at a5;exact Bh a5
    have b4:=(x5 a0 (by rw[f5];exact Ag _)).trans f5;have h4:=x4.trans x5;generalize upd (upd a6 E (.dictT [])) D5 (.list [])=σ5 at*;have g2:∀{σ':AA},An ED σ'→σ' Ml=some (.list (CN EH)):=fun{σ'} x=>by rw[x Ml (by rw[hN];exact Ag _)];exact hN
    refine Bv (R9 W.inv W.lt) fun I5 zz zz zz=>?_;have d1:=I5.len;have b6:=fun s S=>W.round (s:=s) d6 hk (!ln hz rfl) hp S;generalize FQ hs late=hs5 at*;refine AJ (Gs R.handled (Zcs (Fl B (yA w) ql ⟨rfl,Ab (AG (by rw[AP ⋯,AP ⋯];exact r4) ⟨_,_,rfl,g2 h4,fun it=>⟨⟨_,_,_,rfl⟩,trivial,EH.length,fun i ρ' σ'=>i≤EH.length∧An ED σ'∧ρ' "nodes"=some (.ref Ml)∧ρ' "homes"=some (.ref a0)∧ρ' "firsts"=some (.ref E)∧ρ' "late"=some (.ref D5)∧
     σ' a0=some (.list (nats hs5))∧∃s,LX EH hs5 i s∧σ' E=some (.dictT (s.1.map fun p=>(p.1.key,.int (p.2:Nat))))∧σ' D5=some (.list (A1 (s.2.map Ay))),
     ⟨!Be _,h4,?_,?_,?_,?_,b4,_,.zero,e6,e5⟩,?_⟩⟩)⟩ ⋯ () () () ())))
    ·rw[AP ⋯,AP ⋯];exact r4
    ·rw[AP ⋯,AP ⋯];exact r5
    ·exact Ar
    ·rw[AP ⋯];exact Ar
    rintro i b0 c9 ⟨hi,x6,a1,a2,a3,a4,b1,s,S,b2,b3⟩;refine⟨hi,_,⟨_,g2 x6,rfl⟩,?_⟩;cases a9:(CN EH)[i]? with
    |none=>
     have i0:EH.length≤i:=by have:=Gb.mp a9;rwa [AU]at this
     obtain rfl:i=EH.length:=by exact Ep hi i0
     refine AL (b6 s S) fun W2 Qs=>?_;exact Ax ⟨_,Qs,hs5,s.2,a0,D5,W2,x6,a1,a2,a4,b1,b3,s5,e9⟩
    |some x=>
     obtain⟨nd,c5,rfl⟩:∃nd,EH[i]? =some nd∧B1 nd.key=x:=by
      rw[CK]at a9;cases hz:EH[i]? with
      |none=>rw[hz]at a9;cases a9
      |some nd=>rw[hz]at a9;exact⟨nd,rfl,Ao a9⟩
     have S':=S.step c5;have a7:=(BY.mp c5).1;have k9:=hk nd (DE c5);have a8:=k7 nd (DE c5);refine AL S.z fun z1 z2=>?_;rw[GR];refine FB R.handled (.tup _) rfl (BZ (A2 (BZ (A2 (Dm ?_)))));have h7:put (put b0 "n" (.int (i:Nat))) "node" (.tup (.str nd.1::nats nd.2)) "node"=some (.tup (.str nd.1::nats nd.2)):=Ar;have g1:put (put b0 "n" (.int (i:Nat))) "node" (.tup (.str nd.1::nats nd.2)) "n"=some (.int (i:Nat)):=by rw[AP ⋯];exact Ar
     have e8:∀{y:Str},y≠("n":Str)→y≠("node":Str)→put (put b0 "n" (.int (i:Nat))) "node" (.tup (.str nd.1::nats nd.2)) y=b0 y:=fun h1 h2=>by rw[AP h2,AP h1]
     generalize put (put b0 "n" (.int (i:Nat))) "node" (.tup (.str nd.1::nats nd.2))=ρ7 at*;refine AJ (BR (Na (l:=E) T9 j1 (AG (by rw[e8 ⋯ ⋯];exact a3) ⟨rfl,.inr (.inr ⟨_,b2⟩),BX (CH (Bw (Ab (CV (AG h7 (BB ⟨⟨_,_,.tup⟩,Fk (x:=.str nd.1) (!CZ o1) () (!CZ o2) ⟨!Cz _,FF B (JD w) Jg (Ab
      (QE R.handled (Pz (NX h7 (by rw[AU];exact ln a8 rfl) ⟨_,rfl,trivial,nats nd.2,TV,by rw[AU];exact ln a8 rfl,fun v=>match v with|.int k=>.int (Aa hs5 k.toNat:Nat)|v=>v,fun v hv C=>?_,fun D7 c4 l0=>?_⟩)) ()))⟩⟩))))))⟩)))
     ·refine AI (BD.mp hv) fun k m2 h6=>?_;subst h6;have:=k9 k m2;refine CV (AG (by rw[AP ⋯,FY ⋯,e8 ⋯ ⋯];exact a2) (AG Ar ⟨⟨_,_,.list b1⟩,En b1 (!A6 o0) (J2 (!AK this (Ac d1.symm))) (!Al o4 hz this) ⟨?_,rfl⟩⟩));show _=AV.int (Aa hs5 (k:Int).toNat:Nat);rw[EW]
     ·have e7:(nats nd.2).map (fun v=>match v with|.int k=>.int (Aa hs5 k.toNat:Nat)|v=>v)=nats (nd.2.map (Aa hs5)):=by
       show(nd.2.map _).map _=(nd.2.map _).map _;rw[Bx,Bx];rfl
      rw[e7];refine Lj (Am _ _ _) (by rw[AU,AU];exact ln a8 rfl) (NV (by rw[AU,AU];simp;exact A6 qB a8) ?_);have x7:An c9 (upd c9 D7 (.list (nats (nd.2.map (Aa hs5))))):=.new c4;have k2:=(x7 a0 (by rw[b1];exact Ag _)).trans b1;have k0:=(x7 E (by rw[b2];exact Ag _)).trans b2;have h5:=(x7 D5 (by rw[b3];exact Ag _)).trans b3;have g3:=x6.trans x7;generalize upd c9 D7 (.list (nats (nd.2.map (Aa hs5))))=σ7 at*;have f3:AV.tup ([AV.str nd.1]++nats (nd.2.map (Aa hs5)))=B1 (Cq hs5 nd).key:=(GR (Cq hs5 nd)).symm;rw[f3];have e0:AH (s.1.map fun p=>(p.1.key,AV.int (p.2:Nat))) (Cq hs5 nd).key=(AH s.1 (Cq hs5 nd)).map fun i=>.int (i:Nat):=PR Nd.key (fun i=>AV.int (i:Nat)) (fun zz zz=>Lk) _ _;refine AG g1 (Zep (R.deeper _ |>.mono (!ld rfl):Ah _ 1).u1 k0 E1 (by rw[AU];exact ln (AK (AK z1 (Cy a7)) hz) rfl) fun c6 h8=>?_);have ev:(AH (s.1.map fun p=>(p.1.key,AV.int (p.2:Nat))) (Cq hs5 nd).key).getD (.int (i:Nat))=.int (Ez hs5 s.1 i nd:Nat):=by
       rw[e0];unfold Ez;cases AH s.1 (Cq hs5 nd)<;>rfl
      rw[ev];have k4:E≠a0:=by rintro rfl;exact(nomatch (Ao ((b1.symm.trans b2))))
      have g9:E≠D5:=by rintro rfl;exact(nomatch (Ao ((b3.symm.trans b2))))
      obtain⟨x8,c1,c2,c3⟩:An ED c6∧c6 a0=some (.list (nats hs5))∧c6 E=some (.dictT ((MK hs5 s i nd).1.map fun p=>(p.1.key,.int (p.2:Nat))))∧c6 D5=some (.list (A1 (s.2.map Ay))):=by
       rcases h8 with⟨h1,rfl⟩|⟨h1,rfl⟩
       ·rw[e0]at h1;have d4:(AH s.1 (Cq hs5 nd)).isSome=true:=by simpa using h1
        refine⟨g3,k2,?_,h5⟩;show _=some (AO.dictT (Iu _ (if _ then _ else _)));rw[if_pos d4];exact k0
       ·rw[e0]at h1;have d4:¬(AH s.1 (Cq hs5 nd)).isSome=true:=by simpa using h1
        refine⟨fun a ha=>by rw[Au _ _ (by rintro rfl;exact ha sE)];exact g3 a ha,by rw[Au _ _ (Ne.symm k4)];exact k2,?_,by rw[Au _ _ (Ne.symm g9)];exact h5⟩;rw[Am];show _=some (AO.dictT (Iu _ (if _ then _ else _)));rw[if_neg d4,zx Nd.key (fun i=>AV.int (i:Nat)) (fun zz zz=>Lk)]
      have h9:Ez hs5 s.1 i nd<EH.length:=by
       unfold Ez;cases n1:AH s.1 (Cq hs5 nd)with
       |none=>exact a7
       |some f=>have:=(S.b _ _ n1).1;show f<_;exact AK this (Cy a7)
      have d2:(MK hs5 s i nd).2=if Aa hs5 (Ez hs5 s.1 i nd)=Aa hs5 i then s.2 else s.2++[(Ez hs5 s.1 i nd,i)]:=rfl;generalize Ez hs5 s.1 i nd=fi at*;refine A2 ?_;have m0:put ρ7 "first" (.int (fi:Nat)) "first"=some (.int (fi:Nat)):=Ar
      have m1:put ρ7 "first" (.int (fi:Nat)) "n"=some (.int (i:Nat)):=by rw[AP ⋯];exact g1
      have n:∀{y:Str},y≠("n":Str)→y≠("node":Str)→y≠("first":Str)→put ρ7 "first" (.int (fi:Nat)) y=b0 y:=fun h1 h2 h3=>by rw[AP h3,e8 h1 h2]
      generalize put ρ7 "first" (.int (fi:Nat))=ρ8 at*
      have mh:ρ8 "homes"=some (.ref a0):=by rw[n ⋯ ⋯ ⋯];exact a2
      refine AJ (CP (Bj (CV (AG mh (AG m0 ⟨⟨_,_,.list c1⟩,En c1 (!A6 o0) (J2 (!AK h9 (Ac d1.symm))) (!Al o4 hz h9) (CV (AG mh (AG m1 ⟨⟨_,_,.list c1⟩,En c1 (!A6 o0) (J2 (!AK a7 (Ac d1.symm))) (!Al o4 hz a7) (NO (BO ?_))⟩)))⟩)))));by_cases he:Aa hs5 fi=Aa hs5 i
      ·rw[decide_eq_true (!Al Zl he)];refine Ba Iv ?_;rw[if_pos he]at d2;refine Ax (Ax ⟨!a7,x8,?_,?_,?_,?_,c1,_,S',c2,by rw[d2];exact c3⟩)
       ·rw[n ⋯ ⋯ ⋯];exact a1
       ·exact mh
       ·rw[n ⋯ ⋯ ⋯];exact a3
       ·rw[n ⋯ ⋯ ⋯];exact a4
      ·rw[decide_eq_false (!Al Qn he)];refine CQ Bool.not_false ?_;rw[if_neg he]at d2;refine AJ (Bg (Cd (l:=D5) Fu Fv (AG (by rw[n ⋯ ⋯ ⋯];exact a4) ⟨rfl,c3,Ab (Bw (BX (AG m0 (AG m1 ⟨!ld rfl,FC c3 (by rw[AU,AU];exact ln (AK (AK z2 (Cy a7)) hz) rfl) ?_⟩))))⟩)));refine Ax (Ax ⟨!a7,fun a ha=>?_,?_,?_,?_,?_,?_,_,S',?_,?_⟩)
       ·rw[Au _ _ (by rintro rfl;exact ha e9)];exact x8 a ha
       ·rw[n ⋯ ⋯ ⋯];exact a1
       ·exact mh
       ·rw[n ⋯ ⋯ ⋯];exact a3
       ·rw[n ⋯ ⋯ ⋯];exact a4
       ·rw[Au _ _ (Ne.symm l3)];exact c1
       ·rw[Au _ _ g9];exact c2
       ·rw[Am,d2];simp
theorem bc{σ A nodes pairs N m Φ}:WT σ A nodes pairs N m Φ:=@zF _ dy _ @nM (((σ,A),(nodes,pairs)),((N,m),Φ))
variable {σ'':AA} {c c':HS} {L L':AZ}
def DQ(σ:AA)(v:AV)(d:Dat):Prop:=DA σ v (EY d)
def A4(σ:AA)(vs:List AV)(ds:List Dat):Prop:=DAs σ vs (Kn ds)
theorem DQ.int(i:Int):DQ σ (.int i) (.int i):=by unfold DQ;rw[EY];exact DA.int i
theorem DQ.str(x:Str):DQ σ (.str x) (.str x):=by unfold DQ;rw[EY];exact DA.str x
theorem DQ.tup(h:A4 σ vs ds):DQ σ (.tup vs) (.tuple ds):=by unfold DQ;rw[EY];exact DA.tup h
theorem DQ.list(e:σ l=some (.list vs))(h:A4 σ vs ds):DQ σ (.ref l) (.list ds):=by unfold DQ;rw[EY];exact DA.list e h
theorem A4.nil:A4 σ [] []:=by unfold A4;rw[Kn];exact DAs.nil
theorem A4.cons(a:DQ σ v d)(b:A4 σ vs ds):A4 σ (v::vs) (d::ds):=by unfold A4;rw[Kn];exact DAs.cons a b
theorem DA.le(k:∀a x,σ a=some x→σ' a=some x)(D:DA σ v d):DA σ' v d:=
 @DA.rec σ (fun x d m=>DA σ' x d) (fun xs ds m=>DAs σ' xs ds) .int .str (fun m h=>.tup h) (fun e m h=>.list (k _ _ e) h) .nil (fun m m a b=>.cons a b) v d D
theorem DAs.le(k:∀a x,σ a=some x→σ' a=some x)(D:DAs σ v d):DAs σ' v d:=
 @DAs.rec σ (fun x d m=>DA σ' x d) (fun xs ds m=>DAs σ' xs ds) .int .str (fun m h=>.tup h) (fun e m h=>.list (k _ _ e) h) .nil (fun m m a b=>.cons a b) v d D
theorem DQ.le(k:∀a x,σ a=some x→σ' a=some x)(h:DQ σ v d):DQ σ' v d:=DA.le k h
theorem A4.le(k:∀a x,σ a=some x→σ' a=some x)(h:A4 σ v d):A4 σ' v d:=DAs.le k h
abbrev Hb(ns:List Nat):Dat:=.list (ns.map fun(n:Nat)=>.int n)
theorem A4.nats(ns:List Nat):A4 σ (nats ns) (ns.map fun(n:Nat)=>.int n):=by
 induction ns with
 |nil=>exact A4.nil
 |cons i is m=>exact A4.cons (DQ.int i) m
def BE(n:Nat)(d:Dat):Prop:=kqdOk n d=true
theorem BE.up:∀{d:Dat},BE n d→BE (n+1) d:=by
 induction n with
 |zero=>intro d h;cases d<;>simp_all [BE,kqdOk]
 |succ n ih=>
  intro d h;cases d with
  |tuple ds=>simp only[BE,kqdOk,Fo]at h ⊢;exact fun x m=>ih (h x m)
  |list ds=>simp only[BE,kqdOk,Fo]at h ⊢;exact fun x m=>ih (h x m)
  |_=>simp_all [BE,kqdOk]
theorem BE.int(n:Nat)(i:Int):BE n (.int i):=by cases n<;>rfl
theorem BE.seq{n:Nat}{ds:List Dat}(h:∀d∈ds,BE n d):BE (n+1) (.list ds)∧BE (n+1) (.tuple ds):=by
 constructor<;>(simp only[BE,kqdOk,Fo];exact h)
theorem BE.nats(n:Nat)(ns:List Nat):BE (n+1) (Hb ns):=(BE.seq fun d hd=>by refine AI (BD.mp hd) fun z zz m=>?_;subst m;exact .int n _).1
theorem NC(h:n≤64)(o:BE n d):Iq (EY d)=true:=by
 refine AL (kqd_lay n d o) fun a b=>?_;unfold Iq;rw[Fq,decide_eq_true_eq];exact⟨a,!AK b h⟩
theorem Ob(hd:BE n d)(m:BE k e):(d=e→HX (EY d) (EY e)=true)∧(d≠e→HX (EY d) (EY e)=false):=by
 have h:=kqd_eqv n d e k hd m;refine⟨h.mpr,fun q=>?_⟩;cases z:HX (EY d) (EY e)with
 |false=>rfl
 |true=>exact absurd (h.mp z) q
theorem Xs{x y:AV}{d e:Dat}{n k:Nat}{Φ:AV→AA→Prop}(R:Ah A 4)(a:DQ σ x d)(b:DQ σ y e)(hd:BE n d)(m:BE k e)(hn:n≤64)(hk:k≤64)(q1:d=e→Φ (.bool false) σ)(q2:d≠e→Φ (.bool true) σ):AM A (EC .NotEq) x y σ Φ:=by
 refine Xn R a b (NC hn hd) (NC hk m) ?_;by_cases q:d=e
 ·rw[(Ob hd m).1 q];exact q1 q
 ·rw[(Ob hd m).2 q];exact q2 q
theorem ie(R:Ah A 4)(a:DQ σ x d)(b:DQ σ y e)(hd:BE n d)(m:BE k e)(hn:n≤64)(hk:k≤64)(q1:d=e→Φ (.bool true) σ)(q2:d≠e→Φ (.bool false) σ):AM A (EC .Eq) x y σ Φ:=by
 refine iT R a b (NC hn hd) (NC hk m) ?_;by_cases q:d=e
 ·rw[(Ob hd m).1 q];exact q1 q
 ·rw[(Ob hd m).2 q];exact q2 q
def Ed(σ σ':AA):AA:=fun a=>if(σ a).isSome then none else σ' a
theorem NF(n:σ a=none)(e:σ' a=some x):Ed σ σ' a=some x:=by unfold Ed;rw[n];exact e
theorem Vm(e:Ed σ σ' a=some x):σ' a=some x:=by
 unfold Ed at e;split at e
 ·exact As e
 ·exact e
theorem Iy(x:An σ' σ''):∀a y,Ed σ σ' a=some y→Ed σ σ'' a=some y:=fun a y e=>by
 have h:=Vm e;unfold Ed at e ⊢;split at e
 ·exact As e
 ·rename_i n;rw[if_neg n,x a (by rw[h];exact Ag _)];exact h
theorem An.none(x:An σ σ'){a:AB}(n:σ' a=none):σ a=none:=by
 cases z:σ a with
 |none=>rfl
 |some v=>have:=x a (by rw[z];exact Ag _);rw[n,z]at this;exact As this
end
section
variable {σ σ' σ'' τ:AA} {A:AX} {env:Af} {ρ:AW} {c c':HS} {L L':AZ}
theorem cM(x:An τ σ):∀a y,Ed σ σ' a=some y→Ed τ σ' a=some y:=fun a y e=>by
 have h:=Vm e;unfold Ed at e ⊢;split at e
 ·exact As e
 ·rename_i n;have m:σ a=none:=by simpa using n
  rw[x.none m];exact h
theorem A4.snoc(a:A4 σ vs ds)(b:DQ σ v d):A4 σ (vs++[v]) (ds++[d]):=by
 induction vs generalizing ds with
 |nil=>cases ds with
  |nil=>exact A4.cons b A4.nil
  |cons d ds=>unfold A4 at a;rw[Kn]at a;cases a
 |cons u us m=>cases ds with
  |nil=>unfold A4 at a;rw[Kn]at a;cases a
  |cons d' ds=>
   unfold A4 at a;rw[Kn]at a;cases a with
   |cons a1 n=>exact A4.cons a1 (m n)
theorem Zd9(hh:A.handled=none)
  (k:BQ A env a1 ρ σ fun a0 m=>Hv a0 (.Name x px)∧∃(xs:List T)(av:T→AV)(dq:T→Dat),(∀σ',An m σ'→a0.has σ' (xs.map av))∧xs.length≤1000000∧
   (∀t∈xs,∀C σ',An m σ'→EV A (CR scope env C) a8 (put (EM ρ) x (av t)) σ' fun y n=>An σ' n∧DQ (Ed m n) y (dq t))∧
   ∀D σ',An m σ'→DQ (Ed m σ') (.ref D) (.list (xs.map dq))→Φ (.ref D) σ')
  (hc:Ht scope env x=true)(hs:autoParam (∀x,G2 a1 env x=pure x) aI):
  EV A env (.ListComp a8 [⟨.Name x px,a1,[],0⟩] scope a9) ρ σ Φ:=
 TY hh (fun s S=>AT (k s S) (fun v s₁ h₁=>AT h₁ (fun it s₂ a3=>Jl a3 fun I a0 m e1 a6 a7 g t a2=>Sg a2 fun ht xs av dq hx hl kf q=>⟨I,a0,m,e1,a6,a7,g,t,ht,xs.length,fun i ys σ'=>i≤xs.length∧An m σ'∧A4 (Ed m σ') ys ((xs.take i).map dq),
  ⟨Be _,.refl _,A4.nil⟩,hl,fun i ys σ' a5=>BN a5 fun e1 e2 e3=>⟨e1,_,hx σ' e2 i,by
   rw[CK];cases z:xs[i]? with
   |none=>
    have:xs.length≤i:=Gb.mp z;rw[Io this]at e3;intro D nD nb;have x1:An σ' (upd σ' D (.list ys)):=.new nD;exact q D _ (e2.trans x1) (DQ.list (NF (e2.none nD) (Am _ _ _)) (e3.le (Iy x1)))
   |some v=>
    refine AY (BY.mp z) fun hi hv=>?_;intro C;refine(kf v (hv▸T5 hi) C σ' e2).mono fun y n a4=>AL a4 fun e4 e5=>⟨hi,e2.trans e4,?_⟩;rw[G4,z,Cw];exact(e3.le (Iy e4)).snoc e5⟩⟩) fun zz zz e=>e) fun zz zz e=>e) hc hs
theorem Xu(hh:A.handled=none)
  (k:BQ A env a0 ρ σ fun a1 m=>Hv a1 (.Name x px)∧∃(xs:List T)(av:T→AV)(dq:T→Dat),(∀σ',An m σ'→a1.has σ' (xs.map av))∧xs.length≤1000000∧
   (∀t∈xs,∀C σ',An m σ'→EV A (CR scope env C) a8 (put (EM ρ) x (av t)) σ' fun y n=>An σ' n∧DQ (Ed m n) y (dq t))∧
   ∀D σ',An m σ'→DQ (Ed m σ') (.ref D) (.list (xs.map dq))→AQ A env (Fs (.Name y py) env) (.ref D) ρ σ' (fun a2 σ₂=>Φ .next a2 σ₂))
  (hc:Ht scope env x=true)(a9:autoParam (QL (.ListComp a8 [⟨.Name x px,a0,[],0⟩] scope b2) (some (.Name y py)) a5.line env=pure true) aR)(hs:autoParam (∀x,G2 a0 env x=pure x) aI):
  Em A env (.Assign [.Name y py] (.ListComp a8 [⟨.Name x px,a0,[],0⟩] scope b2) a5) ρ σ Φ:=
 Xl hh (fun s S=>AT (k s S) (fun v s₁ h₁=>AT h₁ (fun it s₂ a6=>Jl a6 fun I a1 m e1 b0 b1 g t a7=>Sg a7 fun ht xs av dq hx hl kf q=>⟨I,a1,m,e1,b0,b1,g,t,ht,xs.length,fun i ys σ'=>i≤xs.length∧An m σ'∧A4 (Ed m σ') ys ((xs.take i).map dq),
  ⟨Be _,.refl _,A4.nil⟩,hl,fun i ys σ' a4=>BN a4 fun e1 e2 e3=>⟨e1,_,hx σ' e2 i,by
   rw[CK];cases z:xs[i]? with
   |none=>
    have:xs.length≤i:=Gb.mp z;rw[Io this]at e3;intro D nD nb;have x1:An σ' (upd σ' D (.list ys)):=.new nD;exact q D _ (e2.trans x1) (DQ.list (NF (e2.none nD) (Am _ _ _)) (e3.le (Iy x1)))
   |some v=>
    refine AY (BY.mp z) fun hi hv=>?_;intro C;refine(kf v (hv▸T5 hi) C σ' e2).mono fun y n a3=>AL a3 fun e4 e5=>⟨hi,e2.trans e4,?_⟩;rw[G4,z,Cw];exact(e3.le (Iy e4)).snoc e5⟩⟩) fun zz zz e=>e) fun zz zz e=>e) hc a9 hs
def HB(e:AV):Prop:=∃(a b:Nat)(m:List Str),e=.tup [.int a,.int b,.tup (m.map .str)]∧∀r∈m,PyData.strOk r=true
def RB:AV→Dat
 |.int i=>.int i
 |.str x=>.str x
 |_=>.none
def Qy:AV→Dat
 |.tup [a,b,.tup m]=>.tuple [RB a,RB b,.tuple (m.map RB)]
 |_=>.none
theorem HB.dq(h:HB e):DQ σ e (Qy e)∧BE 3 (Qy e):=by
 obtain⟨a,b,rs,rfl,hr⟩:=h;have h1:A4 σ (rs.map AV.str) ((rs.map AV.str).map RB):=by
  clear hr
  induction rs with
  |nil=>exact A4.nil
  |cons r rs ih=>exact A4.cons (DQ.str r) ih
 refine⟨DQ.tup (A4.cons (DQ.int _) (A4.cons (DQ.int _) (A4.cons (DQ.tup h1) A4.nil))),?_⟩;refine(BE.seq fun d hd=>?_).2;rcases A7.mp hd with rfl|hd
 ·exact .int _ _
 rcases A7.mp hd with rfl|hd
 ·exact .int _ _
 rw[Ap.mp hd];refine(BE.seq fun d hd=>?_).2;refine AI (BD.mp hd) fun y hy m=>?_;subst m;refine AI (BD.mp hy) fun r a0 n=>?_;subst n;exact hr r a0
theorem A4.edges(h:∀e∈es,HB e):A4 σ es (es.map Qy):=by
 induction es with
 |nil=>exact A4.nil
 |cons e es n=>exact A4.cons (h e (.head _)).dq.1 (n fun e m=>h e (.tail _ m))
abbrev ZM(c:HS)(nd:Nd):Int:=match AH c.known (nd.1,nd.2.map c.find)with|some n=>(c.find n:Nat)|none=>-1
def I9(c:HS):Dat:=.tuple [Hb ((B6 c.uab.length).map c.find),.list (c.nodes.map fun nd=>.int (ZM c nd)),.list ((BU c).map fun a=>Hb (Internal.ss (c.ab a))),.list (c.edges.map Qy),Hb c.forest,Hb c.waiting,.int (c.marks.length:Nat)]
theorem BE.mono(h:n≤m)(o:BE n d):BE m d:=by
 induction h with
 |refl=>exact o
 |step _ ih=>exact ih.up
theorem yo(he:∀e∈c.edges,HB e):BE 5 (I9 c):=by
 refine(BE.seq fun d hd=>?_).2;simp only[A7,HY,or_false]at hd;rcases hd with rfl|rfl|rfl|rfl|rfl|rfl|rfl
 ·exact .nats _ _
 ·refine(BE.seq fun d hd=>?_).1;refine AI (BD.mp hd) fun nd zz a0=>?_;subst a0;exact .int _ _
 ·refine(BE.seq fun d hd=>?_).1;refine AI (BD.mp hd) fun nd zz m=>?_;subst m;exact .nats _ _
 ·refine(BE.seq fun d hd=>?_).1;refine AI (BD.mp hd) fun e h n=>?_;subst n;exact(HB.dq (σ:=fun zz=>none) (he e h)).2
 ·exact .nats _ _
 ·exact .nats _ _
 ·exact .int _ _
theorem cn(w:AD):Co (KK w) Bk "_law_photo"=some (some (.ref 545)):=∅
theorem Zb6(h:a∈BU c):c.uab[a]? =some a:=by simpa using(Dn.mp h).2
theorem mQ(h:c.uab[a]? =some a):c.find a=a:=HA h
theorem bG(e:σ l=some (.list xs)):∀σ',An σ σ'→(BI.list l).has σ' xs:=fun σ' x=>QB (by rw[x l (by rw[e];exact Ag _)];exact e)
theorem Zcd(B:Aj)(R:Ah A 5)(P:AS σ L c)(S:D0 c)(hN:σ N=some (.list (CN c.nodes)))(he:∀e∈c.edges,HB e)(hm:c.marks.length≤1000)(hn:c.nodes.length≤900)
  (q:∀v σ',An σ σ'→DQ (Ed σ σ') v (I9 c)→Φ v σ'):AF A (.ref 545) [.ref (L .hp),.ref N] σ Φ:=by
 have nl:=S.nl;refine GU (F:=(XQ w)) (names:=["heap_now","nodes"]) B R rfl (fun Lf=>?_) (DG fun zz zz=>rfl) rfl ∅
 ·refine AJ (Xu R.handled (Le (Fl B (Jf w) JS ⟨rfl,Ab (Bu B () P.iH () (Oy w) (Md w) (AC.nil (PS B (R.up rfl) P (!ln hn rfl)
   ⟨c.nodes.length,rfl,!ln (CG hn) rfl,⟨_,_,rfl⟩,B6 c.nodes.length,fun(i:Nat)=>.int (0+i),fun i=>.int (c.find i:Nat),fun zz zz=>Xk,by rw[MF];exact ln hn rfl,fun i hi C σ' x=>?_,fun D1 b4 x1 d1=>A2 ?_⟩)))⟩ ⋯ () () () ())) ())
  ·have hi:=MH.mp hi;rw[show(fun(i:Nat)=>AV.int (0+i)) i=.int (i:Nat) by show AV.int (0+(i:Int))=_;rw[Jn]];exact Bu B (by rw[AP ⋯,FY ⋯];rfl) (P.ext x).iH () (HD w) (Ha w) (Ab (AG Ar (HC B (R.up rfl) (P.ext x) S.U (!AK hi (Ac nl)) ⟨.refl _,DQ.int _⟩)))
  have P1:=P.ext x1;refine AJ (Xu R.handled (FA (AG (by rw[AP ⋯];rfl) ⟨N,_,rfl,by rw[x1 N (by rw[hN];exact Ag _)];exact hN,trivial,c.nodes,fun nd=>B1 nd.key,fun nd=>.int (ZM c nd),bG (by rw[x1 N (by rw[hN];exact Ag _)];exact hN),!ln hn rfl,fun nd b2 C σ' x=>?_,fun D2 b5 x2 d2=>A2 ?_⟩)) ())
  ·refine AY (US b2) fun i hi=>?_;refine AL (S.kids i nd hi) fun k1 k2=>?_;have e0:put (EM (put (B8 ["heap_now","nodes"] [.ref (L .hp),.ref N]) "finds" (.ref D1))) "node" (B1 nd.key) "node"=some (.tup (.str nd.1::nats nd.2)):=by rw[Ar,GR]
   refine Bu B (by rw[AP ⋯,FY ⋯,AP ⋯];rfl) (P1.ext x).iH () (rH w) (bS w) (BX (CV (AG e0 (BB ⟨⟨_,_,.tup⟩,Fk (x:=.str nd.1) (!CZ o1) () (!CZ o2) (NX e0 (by rw[AU];exact ln k1 rfl) ?_)⟩))));exact zI B (R.up rfl) (P1.ext x) S.U k2 (!ln k1 rfl) (fun n hn=>S.kn _ n hn) fun b0 x3=>⟨x3,DQ.int _⟩
  have P2:=P1.ext x2;refine AJ (Xu R.handled (FA (Bu B (by rw[AP ⋯,AP ⋯];rfl) P2.iH () (Ql w) (OY w) (AC.nil (SD B (R.up rfl) P2 S.U fun D3 b0 a6 b6 P3 F3=>
   ⟨D3,_,rfl,a6,trivial,BU c,fun(a:Nat)=>.int a,fun a=>Hb (Internal.ss (c.ab a)),bG a6,?_,fun a ha C σ' x=>?_,fun D4 a1 x4 d4=>A2 ?_⟩)))) ())
  ·exact AK (OB _ _) (by rw[MF];exact ln (AK (Ac nl.symm) hn) rfl)
  ·have hr:=Zb6 ha;have b1:=RU ha;refine AI (S.abo a hr) fun l hl a3=>?_;have b3:c.ab a=l:=by unfold HS.ab;rw[hl];rfl
   refine Bu B (by rw[AP ⋯,FY ⋯,AP ⋯,AP ⋯];rfl) (P3.ext x).iH () (nW w) (ZB w) (Ab (AG Ar (vC B (R.up rfl) (P3.ext x) S.U b1 (l:=l) (by rw[mQ hr];exact hl) (!ln (CG a3) rfl) fun D5 a0 a9 a8 x5=>⟨x5,?_⟩)));show DQ _ _ (Hb (Internal.ss (c.ab a)));rw[b3];exact DQ.list (NF (x.none a8) a9) (A4.nats _)
  have x3:=F3.ext P2 P3;have P4:=P3.ext x4;have z3:=S.z3;have z4:=S.z4;have z5:=S.z5;have xb:=(x1.trans x2).trans (x3.trans x4);have r0:put (put (put (B8 ["heap_now","nodes"] [.ref (L .hp),.ref N]) "finds" (.ref D1)) "sought" (.ref D2)) "users" (.ref D4) "heap_now"=some (.ref (L .hp)):=by rw[AP ⋯,AP ⋯,AP ⋯];rfl
  refine AJ (CD (Bw (AC.cons (AG (by rw[AP ⋯,AP ⋯];exact Ar) (AC.cons (AG (by rw[AP ⋯];exact Ar) (AC.cons (AG Ar
   (AC.cons (FF B (JR w) Jc (Ab (BM B r0 P4.iH (OU w) Oq (KY (P4.at_ .edges _ rfl) (!ln z3 rfl) fun E1 a5 zz=>?_)))))))))))))
  have y1:An a1 (upd a1 E1 (.list c.edges)):=.new a5;have f1:=NF (xb.none a5) (Am a1 E1 (.list c.edges));generalize upd a1 E1 (.list c.edges)=a0 at*;have P5:=P4.ext y1;refine AC.cons (FF B (JR w) Jc (Ab (BM B r0 P5.iH (VG w) XE (KY (P5.at_ .forest _ rfl) (by rw[AU];exact ln z4 rfl) fun E2 a7 zz=>?_))));have y2:An a0 (upd a0 E2 (.list (nats c.forest))):=.new a7;have f2:=NF ((xb.trans y1).none a7) (Am a0 E2 (.list (nats c.forest)));generalize upd a0 E2 (.list (nats c.forest))=σ6 at*;have P6:=P5.ext y2;refine AC.cons (FF B (JR w) Jc (Ab (BM B r0 P6.iH (OQ w) MO (KY (P6.at_ .waiting _ rfl) (by rw[AU];exact ln z5 rfl) fun E3 a4 zz=>?_))));have y3:An σ6 (upd σ6 E3 (.list (nats c.waiting))):=.new a4;have f3:=NF (((xb.trans y1).trans y2).none a4) (Am σ6 E3 (.list (nats c.waiting)));generalize upd σ6 E3 (.list (nats c.waiting))=σ7 at*;have P7:=P6.ext y3;have a2:=y2.trans y3;have m:=y1.trans a2;refine Ab (Bu B r0 P7.iH () (de w) (V0 w) (AC.nil (bw B (R.up rfl) P7 hm ⟨!ld rfl,q _ _ (xb.trans m) ?_⟩)));refine DQ.tup (A4.cons ?_ (A4.cons ?_ (A4.cons ?_ (A4.cons ?_ (A4.cons ?_ (A4.cons ?_ (A4.cons (DQ.int _) A4.nil)))))))
  ·have:=d1.le (Iy (((x2.trans x3).trans x4).trans m));rw[nl]at this;show DQ _ _ (.list (((B6 c.uab.length).map c.find).map _));rw[Bx];exact this
  ·exact(d2.le (cM x1)).le (Iy ((x3.trans x4).trans m))
  ·exact(d4.le (cM ((x1.trans x2).trans x3))).le (Iy m)
  ·exact DQ.list (Iy a2 _ _ f1) (.edges he)
  ·exact DQ.list (Iy y3 _ _ f2) (.nats _)
  ·exact DQ.list f3 (.nats _)
variable {l:List Af}
theorem ya(w:AD):Co (KK w) Bk "_law_is_refused"=some (some (.ref 552)):=∅
theorem vd(B:Aj)(R:Ah A 12)(al:LQ A σ l)(P:AS σ L c)(U:Bz c.uab)(hn:c.nodes.length≤900)(T:Cu σ t dx (L .hp))
  (hl:σ l0=some (.list (A1 ps)))(hz:ps.length≤800)(X:Mq c.nodes.length (CB (if m then ps else ps++[(n,n),(0,0)])) N i0)(q:∀σ',An σ σ'→Φ (.bool true) σ'):
  AF A (.ref 552) [.ref t,.ref l0,.int n,.bool m] σ Φ:=by
 refine AF.def (F:=(cy w)) (names:=["trial","pairs","n","is_whole"]) B R rfl (fun Lf=>?_) (Ku fun zz zz zz zz=>rfl) rfl ∅
 ·refine AJ (Zek (L:=Lf) (l:=l) (Ψ:=fun σ'=>An σ σ') B rfl rfl (Km al.fr) (NW (Zdc (Py (AG () (BO ⟨fun zz zz=>rfl,?_⟩))))) (fun ρ' σ' x=>q σ' x) () () ());cases m with
  |true=>
   refine CQ rfl ?_;rw[if_pos rfl]at X;refine NW (Ta (L:=Lf) B () T () (f6 w) (SL w) rfl rfl () (Km al.fr) al.kd al.own (Ab (AG () ⟨fun zz zz=>rfl,fun nL o=>?_⟩)) () ⋯ () () () ());have x2:An σ (upd σ Lf (.frz o)):=.new nL;exact z7 B (R.deeper _) (P.ext x2) U hn X (T.ext x2) (by rw[x2 _ (by rw[hl];exact Ag _)];exact hl) (!ln hz rfl) fun σ' x3=>x3.back nL
  |false=>
   refine Ba rfl ?_;rw[if_neg Gx]at X;refine NW (Ta (L:=Lf) B () T () (bT w) (TD w) rfl rfl () (Km al.fr) al.kd al.own (GT (AG () (AG () (BB ⟨fun zz zz=>rfl,fun nL o=>?_⟩)))) () ⋯ () () () ());have x2:An σ (upd σ Lf (.frz o)):=.new nL;exact xY B (R.deeper _) (P.ext x2) hn X (T.ext x2) (by rw[x2 _ (by rw[hl];exact Ag _)];exact hl) hz fun σ' x3=>x3.back nL
end
section
variable {σ σ' σ'' τ τ':AA} {s s' s'':AN} {h h':A5} {A:AX} {env:Af} {ρ ρ':AW} {scope:C7} {x:Str}
def Qu(scope:C7)(env:Af)(x:Str):Bool:=
 scope.kind== .function&&env.scope.kind== .function&&decide ((scope.names.map (·.1)).Nodup)&&((scope.names.filter fun p=>p.2== .cell)==[(x,.cell)])&&
 scope.names.all fun p=>match p.2 with
  |.free=>env.kindOf p.1==some .cell&&(env.cells.lookup p.1).isSome
  |.local=>p.1==".0"
  |_=>true
structure JV(scope:C7)(env:Af)(x:Str):Prop where
 kind:scope.kind=.function
 ekind:env.scope.kind=.function
 nd:(scope.names.map (·.1)).Nodup
 one:(scope.names.filter fun p=>p.2== .cell)=[(x,.cell)]
 free:∀y,(y,NameKind.free)∈scope.names→env.kindOf y=some .cell∧(env.cells.lookup y).isSome=true
 loc:∀y,(y,NameKind.local)∈scope.names→y=".0"
theorem kQ(h:Qu scope env x=true):JV scope env x:=by
 unfold Qu at h;simp -iota only[Fq,beq_iff_eq,decide_eq_true_eq,Fo]at h;refine AL h fun a1 h5=>AL a1 fun a0 h4=>AL a0 fun n h3=>AL n fun h1 h2=>?_;refine⟨h1,h2,h3,h4,fun y m=>?_,fun y m=>?_⟩
 ·have:=h5 _ m;simpa using this
 ·have:=h5 _ m;simpa using this
theorem JV.cell(c:JV scope env x):(y,NameKind.cell)∈scope.names↔y=x:=by
 have:(y,NameKind.cell)∈(scope.names.filter fun p=>p.2== .cell)↔(y,NameKind.cell)∈scope.names:=by simp[Dn]
 rw[←this,c.one];simp
theorem g6(c:JV scope env x)(e:(G3 scope env).names.lookup y=some k):(k=.cell∧((y,NameKind.free)∈scope.names∨y=x))∨(k=.local∧y=".0")∨(k≠.cell∧k≠.local):=by
 have m:=mem_of_lookup e;unfold G3 at m;obtain⟨⟨n,k'⟩,hm,q⟩:=BD.mp m;dsimp only at q;split at q
 ·rename_i hc;cases q;simp only[Fq,beq_iff_eq]at hc;exact .inl ⟨rfl,.inl (hc.1.1▸hm)⟩
 ·cases q;by_cases h1:k=NameKind.local
  ·subst h1;exact .inr (.inl ⟨rfl,c.loc _ hm⟩)
  ·by_cases h2:k=NameKind.cell
   ·subst h2;exact .inl ⟨rfl,.inr (c.cell.mp hm)⟩
   ·exact .inr (.inr ⟨h2,h1⟩)
abbrev Gh(scope:C7)(env:Af)(x:Str)(C K:AB):Af:=Ly scope ((x,K)::Xa scope env) C env
theorem ba(c:JV scope env x){C K:AB}:(Gh scope env x C K).kindOf x=some .cell:=by
 have hm:=c.cell.mpr rfl;have:(x,NameKind.cell)∈(G3 scope env).names:=BD.mpr ⟨_,hm,!rfl⟩;refine Pb ?_ this;have:(G3 scope env).names.map (·.1)=scope.names.map (·.1):=by
  unfold G3;rw[Bx];refine Dz fun p m=>?_;obtain⟨n,k⟩:=p;show(if _ then _ else _:Str×FV).1=n;split<;>rfl
 show(Iu _ (G3 scope env).names).Nodup;rw[this];exact c.nd
theorem sB(c:JV scope env x){C K:AB}(e:(Gh scope env x C K).kindOf y=some .cell)(ne:y≠x):env.kindOf y=some .cell∧(Gh scope env x C K).cells.lookup y=env.cells.lookup y:=by
 rcases g6 c e with⟨_,m|m⟩|⟨q,_⟩|⟨q,_⟩
 ·have f:=c.free y m;refine⟨f.1,?_⟩;have h1:y∈(DS env scope.names []).map (·.1):=eR (.inl ⟨m,f.2⟩);obtain⟨⟨y',a⟩,hm,rfl⟩:=BD.mp h1;have n:=Kv hm;rcases n with n|n
  ·cases n
  ·rw[n.2];show((x,K)::DS env scope.names []).lookup _=_;rw[QP,beq_eq_false_iff_ne.mpr ne];exact Vq (Sm c.nd (by simp) (by simp)) hm
 ·exact absurd m ne
 ·exact nomatch q
 ·exact absurd rfl q
theorem WQ(c:JV scope env x){C K a:AB}(h:a∈oc (Gh scope env x C K)):a=K∨a∈oc env:=by
 obtain⟨⟨y,a'⟩,hp,rfl⟩:=BD.mp h;refine AL (Dn.mp hp) fun hm hk=>?_;have hk:(Gh scope env x C K).kindOf y=some .cell:=by simpa using hk
 rcases A7.mp hm with q|hm
 ·refine AL (Nj q) fun n m=>?_;subst n;subst m;exact .inl rfl
 ·rcases Kv (show(y,a')∈DS env scope.names []from hm)with q|q
  ·cases q
  ·exact .inr (J0 q.2 (c.free y q.1).1)
theorem kc(c:JV scope env x){C K:AB}(hn:(oc env).Nodup)(hK:K∉oc env):(oc (Gh scope env x C K)).Nodup:=by
 have hk:((DS env scope.names []).map (·.1)).Nodup:=Sm c.nd (by simp) (by simp);have n:∀p∈DS env scope.names [],env.cells.lookup p.1=some p.2∧env.kindOf p.1=some .cell:=fun p hp=>by
  rcases Kv (show(p.1,p.2)∈DS env scope.names []from hp)with z|z
  ·cases z
  ·exact⟨z.2,(c.free _ z.1).1⟩
 have a0:(((x,K)::DS env scope.names []).map (·.2)).Nodup:=by
  rw[CF,FU];refine⟨fun m=>?_,?_⟩
  ·refine AI (BD.mp m) fun p hp e=>?_;have e:p.2=K:=e;refine AL (n p hp) fun m1 m2=>?_;exact hK (e▸J0 m1 m2)
  ·refine Np.mpr ((Np.mp hk).imp_of_mem fun{p q} hp hq a1 e=>?_);refine AL (n p hp) fun m1 m2=>?_;refine AL (n q hq) fun m3 m4=>?_;exact a1 (Vl hn m1 m2 (e▸m3) m4)
 exact List.Nodup.sublist ((Yz).map _) a0
theorem St.compK(c:JV scope env x){C K:AB}(S:St env ρ σ h)(hn:∃m,h.Ns C m)(hx:h.IsCell K (some v))(r:VR h av v)(n1:σ C=none)(n2:hb.get? C=none)(hC:C∉oc env)(k1:σ K=none)(k2:hb.get? K=none)(hK:K∉oc env)(a1:C≠K):
  St (Gh scope env x C K) (put (EM ρ) x av) σ h:=by
 refine AY hn fun m hn=>?_;have lx:(Gh scope env x C K).cells.lookup x=some K:=by show((x,K)::_).lookup x=_;rw[QP];simp
 refine⟨S.g,⟨⟨m,hn,fun y a0 e k=>?_⟩,fun a ha=>?_,fun y a0 e k=>?_,kc c S.l.apart hK,fun q=>?_⟩,⟨n1,n2⟩,fun a ha=>?_⟩
 ·exfalso;have n:y≠x:=by
   rintro rfl;have:=ba (C:=C) (K:=K) c;exact(nomatch (Ao ((k.symm.trans this))))
  rcases g6 c k with⟨q,_⟩|⟨_,rfl⟩|⟨_,q⟩
  ·exact nomatch q
  ·unfold put at e;rw[if_neg n]at e;unfold EM at e;exact As (((if_pos rfl).symm.trans e))
  ·exact absurd rfl q
 ·rcases WQ c ha with rfl|ha
  ·exact⟨_,hx⟩
  ·exact S.l.cell a ha
 ·by_cases n:y=x
  ·subst n;unfold put at e;obtain rfl:=Ao (((if_pos rfl).symm.trans e));exact⟨K,v,lx,hx,r⟩
  ·refine AL (sB c k n) fun k1 k2=>?_;unfold put at e;rw[if_neg n]at e;unfold EM at e;split at e
   ·exact As e
   ·rw[k2];exact S.l.cellv y a0 e k1
 ·rcases WQ c q with q|q
  ·exact a1 q
  ·exact hC q
 ·rcases WQ c ha with rfl|ha
  ·exact⟨k1,k2⟩
  ·exact S.nC a ha
theorem lc:∀(names:List (Str×FV))(m:List (Str×AB))(h:A5)(n:Nat),(names.filter fun p=>p.2== .cell)=[]→HR n names m=m∧Y0 h names=h:=by
 intro names
 induction names with
 |nil=>
  intro _ _ _ _;exact⟨rfl,rfl⟩
 |cons p_ r a0=>
  intro m h n e;obtain⟨nm,k⟩:=p_;rw[L7]at e;unfold HR Y0;split at e
  ·exact nomatch e
  ·rename_i hk;dsimp only at hk;rw[if_neg hk,if_neg hk];exact a0 m h n e
theorem vW:∀(names:List (Str×FV))(m:List (Str×AB))(h:A5)(n:Nat),(names.filter fun p=>p.2== .cell)=[(x,.cell)]→HR n names m=(x,n)::m∧Y0 h names=h.push {cls:=.type "cell",data:=.cell none}:=by
 intro names
 induction names with
 |nil=>
  intro _ _ _ e;cases e
 |cons p_ r a0=>
  intro m h n e;obtain⟨nm,k⟩:=p_;rw[L7]at e;unfold HR Y0;split at e
  ·rename_i hk;dsimp only at hk;rw[Qc]at e;obtain⟨e1,e2⟩:=e;cases e1;rw[if_pos hk,if_pos hk];obtain⟨a,b⟩:=lc r ((x,n)::m) (h.push {cls:=.type "cell",data:=.cell none}) (n+1) e2;exact⟨a,b⟩
  ·rename_i hk;dsimp only at hk;rw[if_neg hk,if_neg hk];exact a0 m h n e
theorem lK{code:Value}(n:(scope.names.filter fun p=>p.2== .cell)=[(x,.cell)])
  (q:Q {scope:=scope,locals:=s.heap.objs.size,globals:=globals,cells:=(x,s.heap.objs.size+1)::cl,qual:=qual,func:=none,code:=env.code,frame:=env.frame,builtins:=env.builtins}
   {s with heap:=(s.heap.push {cls:=.type "dict",data:=.dict #[]}).push {cls:=.type "cell",data:=.cell none}}):
  AR (Ae pg w) A (newFunctionEnv scope globals cl [] qual none code (some env)) Q E s:=by
 simp only[newFunctionEnv,Qd,if_true];refine AE (wpAny_alloc ?_);refine AE (wpAny_layCells _ (fun name kind cells=>by cases m:kind==NameKind.cell<;>simp[m]) _ _ _ _ ?_);obtain⟨a,b⟩:=vW scope.names cl (s.heap.push {cls:=.type "dict",data:=.dict #[]}) (s.heap.push {cls:=.type "dict",data:=.dict #[]}).objs.size n;dsimp only;rw[a,b,Jr];refine AE (Ad (Ad q))
theorem Aq.kcell(x:Aq τ s τ' s'){K:AB}(n:τ K=none)(h:s.heap.IsCell K v):τ' K=none∧s'.heap.IsCell K v:=by
 refine AI h fun o ho hd=>?_;refine AI (x.evo _ o ho n) fun o' m f=>?_;exact⟨x.dead ho n,o',m,f.data.trans hd⟩
theorem fH{K:AB}(h:s.heap.IsCell K v):NT s.heap K∧∀o,s.heap.get? K=some o→∀xs,o.data≠.fields xs:=by
 refine AI h fun o n hd=>?_;exact⟨⟨o,n,fun m=>S8 m fun zz zz zz d=>!(nomatch ((hd.symm.trans d)))⟩,fun o' e xs d=>by obtain rfl:=Ao ((n.symm.trans e));exact(nomatch ((hd.symm.trans d)))⟩
def VV(σ:AA)(s:AN)(A:AX)(env:Af)(ρ:AW)(scope:C7)(x:Str)(n:G5)(px:A3)(a4:G5)(a3:Option (Value→PySem.Sem Unit))(Q:Value→AN→Prop)(a5:A3)(p0:A3)(FIN:AB→AA→Prop):Prop:=∀(hh:A.handled=none)(hc:Qu scope env x=true)(S:St env ρ σ s.heap)(k:BQ A env n ρ σ fun a2 a1=>Hv a2 (.Name x px)∧∃(N:Nat)(Inv:Nat→List AV→AA→Prop),Inv 0 [] a1∧N≤1000000∧∀i ys σ',Inv i ys σ'→i≤N∧∃r,a2.nxt σ' i r∧
   match r with
   |none=>∀D,σ' D=none→hb.get? D=none→FIN D (upd σ' D (.list ys))
   |some v=>∀C K,EV A (Gh scope env x C K) a4 (put (EM ρ) x v) σ' (fun y a0=>Inv (i+1) (ys++[y]) a0)) (fin:∀D C σ' s',FIN D σ'→St env ρ σ' s'.heap→Aq σ s σ' s'→(∃m,s'.heap.Ns C m)→σ' C=none→C∉fp env→hb.get? C=none→EZ σ s C→
   QS (Ae pg w) A (fun zz zz=>False) a3 Q (.ref D) C (.ok .next) s') (hs:autoParam (∀x,G2 n env x=pure x) aI),AR (Ae pg w) A (YV (.ListComp a4 [⟨.Name x px,n,[],0⟩] scope a5) scope env p0 (Tz []) false (A0 n env) a3) Q (fun zz zz=>False) s
def gr:(((AA×AN)×(AX×Af))×((AW×C7)×(Str×G5)))×(((A3×G5)×((Option (Value→PySem.Sem Unit))×(Value→AN→Prop)))×((A3×A3)×(AB→AA→Prop)))→Prop:=fun t=>VV t.1.1.1.1 t.1.1.1.2 t.1.1.2.1 t.1.1.2.2 t.1.2.1.1 t.1.2.1.2 t.1.2.2.1 t.1.2.2.2 t.2.1.1.1 t.2.1.1.2 t.2.1.2.1 t.2.1.2.2 t.2.2.1.1 t.2.2.1.2 t.2.2.2
def FX:=zE gr (((((fun _=>none),{}),({},BV)),(((fun _=>none),BV),(BV,BV))),(((BV,BV),(none,(fun _ _=>True))),((BV,BV),(fun _ _=>True))))
def Pc:=FX.1.1.1.1
def M1:=FX.1.1.1.2
def U6:=FX.1.1.2.1
def JC:=FX.1.1.2.2
def NI:=FX.1.2.1.1
def Ow:=FX.1.2.1.2
def IV:=FX.1.2.2.1
def fu:=FX.1.2.2.2
def Xd:=FX.2.1.1.1
def Zt:=FX.2.1.1.2
def fc:=FX.2.1.2.1
def bA:=FX.2.1.2.2
def Z9:=FX.2.2.1.1
def xv:=FX.2.2.1.2
def zy:=FX.2.2.2
theorem uF:VV Pc M1 U6 JC NI Ow IV fu Xd Zt fc bA Z9 xv zy:=fun hh hc S k fin hs=>by
 have c:=kQ hc;refine jG rfl hs (WC fun p hp e=>(c.free p.1 (by rw[←e];exact hp)).2) c.kind (fun y hy e=>Pb c.nd (by rw[←e];exact hy)) (AT (k M1 S) (fun v s₁ h₁=>AT h₁ (fun it s₂ i2=>Jl i2 fun I b6 a2 e1 f2 e5 g t h0=>MN h0 fun ht N Inv i0 hN step=>?_) fun zz zz e=>DR e) fun zz zz e=>DR e);subst e1;have e2:St JC NI a2 s₂.heap:=S.step g t;have k8:=PH S.g e5;refine Nt (lK c.one ?_) (by show([]:List Value).toArray.size≤Nu;rw[CJ];exact Be _);dsimp only;have b7:(s₂.heap.push {cls:=.type "list",dict:=none,data:=.seq ([]:List Value).toArray}).objs.size=s₂.heap.objs.size+1:=Jr ..;rw[b7];have f5:∀b o,s₂.heap.get? b=some o→(((s₂.heap.push {cls:=.type "list",dict:=none,data:=.seq ([]:List Value).toArray}).push {cls:=.type "dict",data:=.dict #[]}).push {cls:=.type "cell",data:=.cell none}).get? b=some o:=fun b o e=>BC _ (BC _ (BC _ e));have h6:(((s₂.heap.push {cls:=.type "list",dict:=none,data:=.seq ([]:List Value).toArray}).push {cls:=.type "dict",data:=.dict #[]}).push {cls:=.type "cell",data:=.cell none}).PlainList s₂.heap.objs.size #[]:=⟨_,BC _ (BC _ (B2 _ rfl))⟩;have h1:∃m,(((s₂.heap.push {cls:=.type "list",dict:=none,data:=.seq ([]:List Value).toArray}).push {cls:=.type "dict",data:=.dict #[]}).push {cls:=.type "cell",data:=.cell none}).Ns (s₂.heap.objs.size+1) m:=by
  rw[←b7];exact⟨_,(Heap.Ns.new _ (.type "dict")).keeps fun b o e=>BC _ e⟩
 have k5:(((s₂.heap.push {cls:=.type "list",dict:=none,data:=.seq ([]:List Value).toArray}).push {cls:=.type "dict",data:=.dict #[]}).push {cls:=.type "cell",data:=.cell none}).IsCell (s₂.heap.objs.size+1+1) none:=by
  have e:((s₂.heap.push {cls:=.type "list",dict:=none,data:=.seq ([]:List Value).toArray}).push {cls:=.type "dict",data:=.dict #[]}).objs.size=s₂.heap.objs.size+1+1:=by rw[Jr,b7]
  rw[←e];exact⟨_,B2 _ rfl,rfl⟩
 have a9:∀a,s₂.heap.objs.size≤a→s₂.heap.get? a=none:=fun a ha=>Im ha;generalize((s₂.heap.push {cls:=.type "list",dict:=none,data:=.seq ([]:List Value).toArray}).push {cls:=.type "dict",data:=.dict #[]}).push {cls:=.type "cell",data:=.cell none}=h₁ at*;have b3:∀a,s₂.heap.get? a=none→a2 a=none:=fun a=>g.none1;have a1:∀a,s₂.heap.get? a=none→hb.get? a=none:=fun a=>g.noneb;have a8:∀a,s₂.heap.get? a=none→a∉fp JC:=fun a=>e2.nofp;have a4:∀a,s₂.heap.get? a=none→a∉b6.own I:=fun a=>f2.noown;have d1:∀a,s₂.heap.get? a=none→b6.off [a]:=fun a=>f2.nooff;have eD:=a9 s₂.heap.objs.size (A9 _);have eC:=a9 (s₂.heap.objs.size+1) (G1 _);have eK:=a9 (s₂.heap.objs.size+1+1) (!A6 ew);have k1:s₂.heap.objs.size≠s₂.heap.objs.size+1:=Bp (Nv _);have h4:s₂.heap.objs.size≠s₂.heap.objs.size+1+1:=by exact Bp (G1 _)
 have g1:s₂.heap.objs.size+1≠s₂.heap.objs.size+1+1:=by exact Bp (A9 _)
 generalize s₂.heap.objs.size+1+1=K at*;generalize s₂.heap.objs.size+1=C at*;generalize s₂.heap.objs.size=D at*;have e8:Bt s₂.heap h₁:=fun a o zz zz e zz zz=>f5 a o e;have kk:Aq a2 s₂ a2 {s₂ with heap:=h₁}:=.keeps f5 rfl rfl;have h7:St JC NI a2 h₁:=e2.step (s':={s₂ with heap:=h₁}) (g.keeps f5) kk;have c5:CA w I b6 D C a2 {s₂ with heap:=h₁} 0 []:=⟨f2.step (s':={s₂ with heap:=h₁}) kk e8,b3 _ eD,b3 _ eC,⟨#[],h6,.nil⟩,h1⟩;have k2:EZ Pc M1 D:=t.fresh eD;have k7:EZ Pc M1 C:=t.fresh eC;have l0:EZ Pc M1 K:=t.fresh eK;have hx:=ba (C:=C) (K:=K) c;have lx:(Gh Ow JC IV C K).cells.lookup IV=some K:=by show((IV,K)::_).lookup IV=_;rw[QP];simp
 have d5:FI (Ae pg w) U6 (.compLoop (.ListComp Zt [⟨.Name IV Xd,fu,[],0⟩] Ow Z9) 0 (.ref I) (.ref D) (Gh Ow JC IV C K)) (QS (Ae pg w) U6 (fun zz zz=>False) fc bA (.ref D) C) {s₂ with heap:=h₁}:=by
  refine dk (fun n s'=>∃i ys σ',N<n+i∧ys.length≤i∧Inv i ys σ'∧St JC NI σ' s'.heap∧Aq Pc M1 σ' s'∧CA w I b6 D C σ' s' i ys∧(σ' K=none∧∃v,s'.heap.IsCell K v)) (fun n s' z=>?_) (N+1)
   ⟨0,[],a2,!A9 _,!Be _,i0,h7,t.trans kk,c5,b3 _ eK,_,k5⟩
  refine uh z fun i ys σ' hn hy k4 z=>Bv z fun S' t' ca z=>GG z fun nK vK hK=>?_;refine Rt (step i ys σ' k4) fun i1 r hr q=>?_;have hf:=ca.it.fields;refine AT (Bs.next (target:=.Name IV Xd) (E:=fun zz zz=>False) S'.g ca.it hh hr ht) (fun o a6 e0=>?_) fun zz zz e=>DR e
  have l3:=S'.ownfx hf;have KP:∀a6,Kp (b6.own I) s' a6→St JC NI σ' a6.heap∧Bt s'.heap a6.heap:=fun a6 kp=>have H:=fun b m=>⟨k8 b m,(hf b m).2⟩;⟨S'.kp kp l3 H,(S'.g.kp kp (fun b m=>(hf b m).1) H).2⟩;cases o with
  |none=>
   refine AL e0 fun e kp=>?_;subst e;refine AL (KP _ kp) fun k3 f3=>?_;refine Fz ca.pl fun vs n' el rs=>?_;refine KL ca.ns fun m' oC c1 c9 c2 qC=>?_;have oD:Ee w a6.heap D (.list ys):=⟨vs,n',kp.k _ _ (a4 D eD) el,rs.mono f3⟩;have c6:=k3.adopt (x:=.list ys) (a1 D eD) (a8 D eD) oD;have c4:=(kp.stp t' e5).adopt (y:=.list ys) k2;have e9:upd σ' D (.list ys) C=none:=by rw[Au _ _ (Ne.symm k1)];exact ca.nC
   exact fin D C _ a6 (q D ca.nD (a1 D eD)) c6 c4 ⟨m',oC,c1,c9,kp.k _ _ (a4 C eC) c2,qC⟩ e9 (a8 C eC) (a1 C eC) k7
  |some v=>
   refine AT e0 (fun zz a5 z=>NU z fun av e rx d3 kp=>?_) fun zz zz e=>DR e;subst e;refine AL (KP _ kp) fun c6 f4=>?_;have a3:=ca.kp kp f4 d3 (a4 D eD) (a4 C eC);have c4:=kp.stp t' e5;have b5:a5.heap.IsCell K vK:=by refine AI hK fun o ho hd=>?_;exact⟨o,kp.k _ _ (a4 K eK) ho,hd⟩
   refine QM (wpAny_storeName_cell (by simp[Ly,G3,c.kind]) hx lx b5 fun a7 c3 d2=>?_);have kC:Kp [K] a5 {a5 with heap:=a7}:=⟨fun b o hb e=>d2.extBut b o (fun h=>hb (Ap.mpr h)) e,rfl,rfl⟩;refine AL (c6.kn1 kC nK (a8 K eK) (a1 K eK) (fH b5).1) fun c8 b2=>?_;have h2:=kC.stp1 c4 l0;have b1:CA w I b6 D C σ' {a5 with heap:=a7} (i+1) ys:=by
    refine Fz a3.pl fun vs n' el rs=>?_;refine KL a3.ns fun g9 oC c1 c9 c2 qC=>?_;exact⟨a3.it.kn kC b2 (fun b m=>by rw[Ap.mp m];exact(fH b5).2) (d1 K eK),a3.nD,a3.nC,⟨vs,⟨n',kC.k _ _ (by simpa using h4) el⟩,rs.mono b2⟩,g9,oC,c1,c9,kC.k _ _ (by simpa using g1) c2,qC⟩
   have Sc:St (Gh Ow JC IV C K) (put (EM NI) IV av) σ' a7:=c8.compK c b1.ns c3 (rx.mono b2) b1.nC (a1 C eC) (fun m=>a8 C eC (.tail _ m)) nK (a1 K eK) (fun m=>a8 K eK (.tail _ m)) g1;refine wpAny_tests_nil ?_;dsimp only;refine AT (q C K {a5 with heap:=a7} Sc) (fun y d6 k6=>BG k6 fun ay e6 g2 g3 b0 h3=>?_) fun zz zz e=>DR e;have e4:=b0.evo.tup c8.g;have a0:=b1.step b0 e4;have h5:=c8.step (s:={a5 with heap:=a7}) g3 b0;refine AL (b0.kcell (K:=K) nK (s:={a5 with heap:=a7}) c3) fun f0 e7=>?_;refine Fz a0.pl fun vs n' el rs=>?_;refine YW ⟨n',el⟩ (fun k0 f1 d4=>?_) (by have e1:=rs.length;rw[Gz]at e1;have e3:ys.length≤1000000:=AK hy (AK i1 hN);rw[CJ];rw[show vs.size=ys.length from e1.symm];exact AK e3 ⋯);have kD:Kp [D] d6 {d6 with heap:=k0}:=⟨fun b o hb e=>d4.extBut b o (fun h=>hb (by simp[h])) e,rfl,rfl⟩;refine AL (h5.kn1 kD a0.nD (a8 D eD) (a1 D eD) a0.ntD.1) fun g0 b4=>?_;have h8:=kD.stp1 (h2.trans b0) k2;refine KL a0.ns fun h9 oC c1 c9 c2 qC=>?_;refine AI e7 fun oK m0 k9=>?_;refine⟨n-1,!o8 hn i1,i+1,ys++[ay],e6,!o6 hn,by simp;exact hy,h3,g0,h8,⟨a0.it.kn kD b4 (fun b m=>by rw[Ap.mp m];exact a0.ntD.2) (d1 D eD),a0.nD,a0.nC,⟨vs.push y,f1,?_⟩,h9,oC,c1,c9,kD.k _ _ (by simpa using Ne.symm k1) c2,qC⟩,f0,_,oK,kD.k _ _ (by simpa using Ne.symm h4) m0,k9⟩;rw[QT];exact(rs.mono b4).append (.one (g2.mono b4))
 exact jI d5 (TM c5.it d5)
theorem oQ{σ s A env ρ scope x m px a0 n Q a1 p0 FIN}:VV σ s A env ρ scope x m px a0 n Q a1 p0 FIN:=@zF _ gr _ @uF ((((σ,s),(A,env)),((ρ,scope),(x,m))),(((px,a0),(n,Q)),((a1,p0),FIN)))
theorem Zdm(hh:A.handled=none)
  (k:BQ A env a1 ρ σ fun a7 a6=>Hv a7 (.Name x px)∧∃(N:Nat)(Inv:Nat→List AV→AA→Prop),Inv 0 [] a6∧N≤1000000∧∀i ys σ',Inv i ys σ'→i≤N∧∃r,a7.nxt σ' i r∧
   match r with
   |none=>∀D,σ' D=none→hb.get? D=none→AQ A env (Fs (.Name y py) env) (.ref D) ρ (upd σ' D (.list ys)) (fun a0 σ₂=>Φ .next a0 σ₂)
   |some v=>∀C K,EV A (Gh scope env x C K) a5 (put (EM ρ) x v) σ' (fun y a3=>Inv (i+1) (ys++[y]) a3))
  (hc:Qu scope env x=true)
  (b5:autoParam (QL (.ListComp a5 [⟨.Name x px,a1,[],0⟩] scope b1) (some (.Name y py)) a8.line env=pure true) aR)
  (hs:autoParam (∀x,G2 a1 env x=pure x) aI):
  Em A env (.Assign [.Name y py] (.ListComp a5 [⟨.Name x px,a1,[],0⟩] scope b1) a8) ρ σ Φ:=fun s S=>by
 show AR _ _ (GX _ _) _ _ _;rw[exec_Assign_Name_used _ _ _ _ b5];refine AE (EQ (AE ?_));show AR _ A (do let _ ←YV (.ListComp a5 [⟨.Name x px,a1,[],0⟩] scope b1) scope env _ (Tz []) false (A0 a1 env) (some (Fs (.Name y py) env))) _ _ s
 refine AE (oQ (FIN:=fun D σ'=>AQ A env (Fs (.Name y py) env) (.ref D) ρ σ' (fun a0 σ₂=>Φ .next a0 σ₂)) hh hc S k (fun D C σ' s' q S' t b4 nC fC bC b6=>?_) hs)
 refine AT (q s' _ S' (.ref D)) (fun zz s'' b0=>Jm b0 fun a0 σ₂ a9 a2 b3=>?_) fun zz zz e=>e;refine GG (a2.ns (JI nC fC) b4) fun a4 m hn=>?_;refine⟨m,hn,fun h' b7=>?_⟩;have kC:Kp [C] s'' {s'' with heap:=h'}:=⟨fun b o hb e=>b7.extBut b o (fun h=>hb (Ap.mpr h)) e,rfl,rfl⟩;have b2:=a9.kn kC (fun b m=>by rw[Ap.mp m];exact a4) (fun b m=>by rw[Ap.mp m];exact⟨bC,Rd hn⟩);refine Ad (Ad ⟨.next,a0,σ₂,trivial,b2,?_,b3⟩)
 refine kC.stp (t.toF.trans a2) (fun b m n=>?_);rw[Ap.mp m]at n ⊢;exact b6 (II n).1
end
section
variable {σ σ' σ'' τ:AA} {A:AX} {env:Af} {ρ:AW} {c c':HS} {L L':AZ} {K:AA} {H C:AB} {cells:List Int}
structure At(σ:AA)(c:HS)(L:AZ)(K:AA)(H C:AB)(cells:List Int):Prop where
 P:AS σ L c
 K:∀a x,K a=some x→σ a=some x∧¬A8 c L a∧a≠H
 hand:∃p q,JX σ H C cells p q
 nH:¬A8 c L H
 nC:¬A8 c L C
def CX(K σ σ':AA):AA:=fun a=>if(σ a).isSome then K a else σ' a
theorem At.le(X:At σ c L K H C cells){σ':AA}:∀a x,K a=some x→CX K σ σ' a=some x:=fun a x e=>by
 unfold CX;rw[(X.K a x e).1];exact e
theorem yn(K:AA):∀a x,Ed σ σ' a=some x→CX K σ σ' a=some x:=fun a x e=>by
 unfold Ed at e;unfold CX;split at e
 ·exact As e
 ·rename_i h;rw[if_neg h];exact e
theorem At.ext(X:At σ c L K H C cells)(x:An σ σ'):At σ' c L (CX K σ σ') H C cells:=by
 refine B0 X.hand fun p q h=>?_;refine⟨X.P.ext x,fun a y e=>?_,⟨p,q,⟨by rw[x H (by rw[h.h];exact Ag _)];exact h.h,by rw[x C (by rw[h.c];exact Ag _)];exact h.c,h.ok,h.sz,h.q0,h.q1⟩⟩,X.nH,X.nC⟩;unfold CX at e;split at e
 ·refine BN (X.K a y e) fun a1 a2 a3=>?_;exact⟨by rw[x a (by rw[a1];exact Ag _)];exact a1,a2,a3⟩
 ·rename_i n;have m:σ a=none:=by simpa using n
  exact⟨e,X.P.out m,by rintro rfl;exact Bh ((h.h.symm.trans m))⟩
theorem At.sub(X:At σ c L K H C cells)(k:∀a x,K' a=some x→K a=some x):At σ c L K' H C cells:=⟨X.P,fun a x e=>X.K a x (k a x e),X.hand,X.nH,X.nC⟩
theorem At.ext0(X:At σ c L K H C cells)(x:An σ σ'):At σ' c L K H C cells:=(X.ext x).sub X.le
theorem At.fm(X:At σ c L K H C cells)(P:AS σ' L' c')(F:Fm σ c L σ' c' L'):At σ' c' L' K H C cells:=by
 refine B0 X.hand fun p q h=>?_;refine AL (F.out h.h X.nH) fun h1 n=>?_;refine AL (F.out h.c X.nC) fun h3 h4=>?_;exact⟨P,fun a x e=>by refine BN (X.K a x e) fun a1 a2 a3=>?_;refine AL (F.out a1 a2) fun b1 m=>?_;exact⟨b1,m,a3⟩,⟨p,q,⟨h1,h3,h.ok,h.sz,h.q0,h.q1⟩⟩,n,h4⟩
theorem At.pick(X:At σ c L K H C cells)(k:∀a,a≠H→σ' a=σ a)(h:JX σ' H C cells p q):At σ' c L K H C cells:=
 ⟨X.P.other fun a f=>k a (by rintro rfl;exact X.nH f),fun a x e=>by refine BN (X.K a x e) fun a1 n m=>?_;exact⟨by rw[k a m];exact a1,n,m⟩,⟨p,q,h⟩,X.nH,X.nC⟩
theorem At.get(X:At σ c L K H C cells)(e:K a=some x):σ a=some x:=(X.K a x e).1
theorem At.out(X:At σ c L K H C cells)(e:K a=some x):¬A8 c L a:=(X.K a x e).2.1
theorem Ng(B:Aj)(R:Ah A 1)(X:At σ c L K H C cells){p1 n p3:A3}{e:Expr}{Φ:AV→AA→Prop}(hx:ρ "hand"=some (.ref H)){m:Nat}(hm:0<m)
  (ke:∀{Ψ:AV→AA→Prop},Ψ (.int (m:Nat)) σ→EV A env e ρ σ Ψ)(q:∀r σ',r<m→At σ' c L K H C cells→(∀a,a≠H→σ' a=σ a)→Φ (.int (r:Nat)) σ')
  (h1:autoParam (Ck (env.kindOf "hand")=true) aR)(h2:autoParam (env.kindOf "_law_pick"=some .globalImplicit) aR)(h3:autoParam (env.scope.kind=.function) aR)(h4:autoParam (env.globals=Bk) aR)
  (hp:autoParam (CO [.Name "hand" n,e]=true) aR)(he:autoParam (∀env,Bb [.Name "hand" n,e] env=(false,A0 (.Name "hand" n) env)::Bb [e] env) aI)(a0:autoParam (∀env,Bb [e] env=(false,A0 e env)::Bb [] env) aI):
  EV A env (.Call (.Name "_law_pick" p1) [.Name "hand" n,e] [] p3) ρ σ Φ:=by
 refine B0 X.hand fun p q0 h=>?_;exact Hy B (WO w) (Rh w) (AC.cons (AG hx (AC.cons (ke (AC.nil (Wf B R h hm fun r p' q' σ' hr k h'=>q r σ' hr (X.pick k h') k))) a0) h1 h3) he) h2 h3 h4 ⋯ hp
def Ex(nd:Nd):Dat:=.tuple (.str nd.1::nd.2.map fun(k:Nat)=>.int k)
theorem Zc3(e:Ex a=Ex b):a=b:=by
 obtain⟨x,xs⟩:=a;obtain⟨y,ys⟩:=b;unfold Ex at e;rw[Dat.tuple.injEq,Qc,Dat.str.injEq]at e;obtain⟨n,m⟩:=e;dsimp only at n m;refine Prod.ext n ?_;show xs=ys;clear n
 induction xs generalizing ys with
 |nil=>cases ys with|nil=>rfl|cons y ys=>simp at m
 |cons x xs ih=>cases ys with
  |nil=>simp at m
  |cons y ys=>
   rw[CF,CF,Qc,Dat.int.injEq]at m;rw[ih _ m.2,jx m.1]
theorem DQ.node(nd:Nd):DQ σ (B1 nd.key) (Ex nd):=by rw[GR];exact DQ.tup (A4.cons (DQ.str _) (A4.nats _))
theorem Cx.ok{x:Str}(o:Cx x):PyData.strOk x=true:=by rcases o with rfl|rfl|rfl|rfl|rfl<;>decide+kernel
theorem BE.node(o:Cx nd.1):BE 2 (Ex nd):=by
 refine(BE.seq fun d hd=>?_).2;rcases A7.mp hd with rfl|hd
 ·exact o.ok
 ·refine AI (BD.mp hd) fun k n m=>?_;subst m;exact .int _ _
theorem A4.nodes(ns:List Nd):A4 σ (CN ns) (ns.map Ex):=by
 induction ns with
 |nil=>exact A4.nil
 |cons n ns m=>exact A4.cons (DQ.node n) m
theorem eY(f:T→Dat)(xs:List T):Kn (xs.map f)=xs.map fun x=>EY (f x):=by
 induction xs with
 |nil=>rw[List.map_nil,Kn];rfl
 |cons x xs m=>rw[CF,Kn,m];rfl
theorem Zd6(k:TR A env t ρ σ fun b m=>Φ (.int (if b=true then i else j)) m):EV A env (.IfExp t (.Constant (.int i) k1 p1) (.Constant (.int j) k2 p2) p3) ρ σ Φ:=
 NY fun s S=>AT (k s S) (fun b s' n=>FD n fun m g t q=>⟨m,g,t,by cases b<;>exact BB q⟩) fun zz zz e=>e
structure OF(c:HS):Prop where
 S:D0 c
 hab:∀k,AH c.abo k≠none→k<c.uab.length
 num:∀(nd:Nd)(i:Nat),AH c.nums nd=some i↔c.nodes[i]? =some nd
 ops:∀nd∈c.nodes,Cx nd.1
 z:c.nodes.length≤60
 hS:∀(nd:Nd)(w d:Int),Cx nd.1→nd.2.length≤2→(∀k∈nd.2,k<c.nodes.length)→nd∉c.nodes→D0 (Fd c nd w d)
def Si(c c':HS)(nd:Nd):Prop:=(nd∈c.nodes∧c'=c)∨(nd∉c.nodes∧∃w d:Int,c'=(Fd c nd w d).lookAt c.nodes.length)
abbrev Fa(ns:List Nd)(nd:Nd):List Nd:=if nd∈ns then ns else ns++[nd]
theorem iD(w:AD):Co (KK w) Bk "_law_node_more"=some (some (.ref 562)):=∅
theorem yB(B:Aj)(R:Ah A 9)(P:AS σ L c)(O:OF c){nd:Nd}(ho:Cx nd.1)(m:nd.2.length≤2)(hk:∀k∈nd.2,k<c.nodes.length){Φ:AV→AA→Prop}
  (q:∀c' L' σ' (i:Nat),Si c c' nd→AS σ' L' c'→Fm σ c L σ' c' L'→Φ (.int i) σ'):AF A (.ref 291) [.ref (L .hp),.str nd.1,.tup (nats nd.2)] σ Φ:=by
 have nl:=O.S.nl;have z:=O.z;by_cases h:nd∈c.nodes
 ·refine AY (US h) fun i n=>?_;exact mU B (R.lo rfl) P O.S.U ((O.num nd i).mpr n) (by have:=(BY.mp n).1;exact AK this (Ac nl)) (!ln m rfl) (q c L σ i (.inl ⟨h,rfl⟩) P (.refl _ _ _))
 ·have e:AH c.nums nd=none:=by
   cases hq:AH c.nums nd with
   |none=>rfl
   |some i=>exact absurd (DE ((O.num nd i).mp hq)) h
  exact eP B R P O.S e m ho hk (!ln z rfl) O.hab (fun w d=>O.hS nd w d ho m hk h) fun w' d L' σ' P' F'=>q _ L' σ' _ (.inr ⟨h,w',d,rfl⟩) P' F'
set_option maxHeartbeats 1000000 in
theorem aU(B:Aj)(R:Ah A 11)(X:At σ c L K H C cells)(O:OF c)(c3:0<c.nodes.length)(hN:K N=some (.list (CN c.nodes)))
  (q:∀nd c' L' σ' N' K',Cx nd.1→nd.2.length≤2→(∀k∈nd.2,k<c.nodes.length)→Si c c' nd→At σ' c' L' K' H C cells→(∀a x,K a=some x→K' a=some x)→K' N'=some (.list (CN (Fa c.nodes nd)))→L' .hp=L .hp→Φ (.ref N') σ'):
  AF A (.ref 562) [.ref H,.ref (L .hp),.ref N] σ Φ:=by
 have z:=O.z;have S:=O.S;have nl:=S.nl;refine GU (F:=(WW w)) (names:=["hand","heap_now","nodes"]) B R rfl (fun Lf=>?_) (KI fun zz zz zz=>rfl) rfl ∅
 ·refine AJ (BR (CV (Bw (BX (DJ (DJ ⟨!ld rfl,Ng B (R.up rfl) X () (m:=2) (!ld rfl) (fun q=>BB q) fun r b5 hr X1 k1=>?_⟩))))));obtain⟨n,c5,a7⟩:∃n:Str,(n="f"∨n="g")∧([AV.str "f",.str "g"])[((r:Nat):Int).toNat]? =some (.str n):=by
   rw[EW];exact Qs (C:=fun r=>∃n:Str,(n="f"∨n="g")∧([AV.str "f",.str "g"])[r]? =some (.str n)) hr ⟨_,.inl rfl,rfl⟩ ⟨_,.inr rfl,rfl⟩
  have a2:Cx n:=by rcases c5 with rfl|rfl<;>simp[Cx]
  refine⟨⟨_,_,.tup⟩,Fk (!A6 o0) a7 (!A6 dw hr) (A2 ?_)⟩;obtain⟨m,hm,a9⟩:∃m:Nat,m≤2∧(if(n==("f":Str))=true then 1 else 2)=m:=⟨_,by split<;>(first|exact CZ xL|exact CZ nX),rfl⟩
  have e1:put (B8 ["hand","heap_now","nodes"] [.ref H,.ref (L .hp),.ref N]) "op" (.str n) "op"=some (.str n):=Ar;have e2:put (B8 ["hand","heap_now","nodes"] [.ref H,.ref (L .hp),.ref N]) "op" (.str n) "hand"=some (.ref H):=by rw[AP ⋯];rfl
  have e3:put (B8 ["hand","heap_now","nodes"] [.ref H,.ref (L .hp),.ref N]) "op" (.str n) "heap_now"=some (.ref (L .hp)):=by rw[AP ⋯];rfl
  have e4:put (B8 ["hand","heap_now","nodes"] [.ref H,.ref (L .hp),.ref N]) "op" (.str n) "nodes"=some (.ref N):=by rw[AP ⋯];rfl
  generalize put (B8 ["hand","heap_now","nodes"] [.ref H,.ref (L .hp),.ref N]) "op" (.str n)=ρ1 at*;have c9:=X1.get hN;refine B0 X1.hand fun p1 q1 h1=>?_;refine AJ (BR (CH (Bw (Ab (AG e1 ⟨!Cz _,FF B (JD w) Jg (Ab (TY R.handled (Le (Fl B (Jf w) JS ⟨rfl,Ab (Zd6 (Bj (AG e1 (DJ (Jk (BO ?_))))))⟩ ⋯ () () () ())) ()))⟩)))));refine⟨m,by rw[←a9];split<;>rfl,!ln (CG hm) rfl,⟨_,_,rfl⟩,m,fun i ys σ'=>i≤m∧At σ' c L K H C cells∧(∀a,a≠H→σ' a=b5 a)∧∃ks:List Nat,ys=nats ks∧ks.length=i∧∀k∈ks,k<c.nodes.length,⟨!Be _,X1,fun zz zz=>rfl,[],rfl,rfl,by simp⟩,!ln hm rfl,?_⟩;rintro i ys a3 ⟨hi,X2,k2,ks,rfl,a0,a4⟩;refine⟨hi,_,rfl,?_⟩;by_cases a5:i<m
  ·rw[if_pos a5];intro Cc;refine Ng B (R.up rfl) X2 (by rw[AP ⋯,FY ⋯];exact e2) (m:=c.nodes.length) c3 (fun{Ψ} qq=>Bo B (Cb w) Ca (Ab (AG (by rw[AP ⋯,FY ⋯];exact e4) (Cj (X2.get hN) (by rw[AU];exact ln z rfl) (by rw[AU];exact qq))))) fun r3 c2 b7 X3 k3=>?_;refine⟨!a5,X3,fun a h=>by rw[k3 a h,k2 a h],ks++[r3],by simp,by simp[a0],fun k hk=>?_⟩;rcases CE.mp hk with h|h
   ·exact a4 k h
   ·rw[Ap.mp h];exact b7
  ·rw[if_neg a5];intro D nD nb;obtain rfl:i=m:=by exact Ep hi (EU a5)
   have x3:An a3 (upd a3 D (.list (nats ks))):=.new nD;have hD:upd a3 D (.list (nats ks)) D=some (.list (nats ks)):=Am _ _ _;have X3:=X2.ext0 x3;generalize upd a3 D (.list (nats ks))=c2 at*;refine Lj hD (by rw[AU];exact ln (AK (Ac a0) hm) rfl) (NV (by rw[AU];simp;exact Al vZ a0 hm) (A2 ?_));have f1:put ρ1 "node" (.tup ([.str n]++nats ks)) "node"=some (.tup (.str n::nats ks)):=Ar;have f2:∀{y:Str},y≠("node":Str)→put ρ1 "node" (.tup ([.str n]++nats ks)) y=ρ1 y:=fun h=>AP h;generalize put ρ1 "node" (.tup ([.str n]++nats ks))=ρ2 at*;have P3:=X3.P;refine AJ (Bg (Bu B (by rw[f2 ⋯];exact e3) P3.iH () (cF w) (Ri w) (BX (AG (by rw[f2 ⋯];exact e1) (NX f1 (by rw[AU];exact ln (AK (Ac a0) hm) rfl) ?_)))));refine yB (nd:=(n,ks)) B (R.up rfl) P3 O a2 (by show ks.length≤2;exact AK (Ac a0) hm) a4 fun c4 L4 a1 zz hM P4 F4=>?_;have X4:=X3.fm P4 F4;have kv:AV.tup (.str n::nats ks)=B1 (Nd.key (n,ks)):=(GR (n,ks)).symm;rw[kv]at f1;refine AJ (CD (NY (Bj (AG f1 (AG (by rw[f2 ⋯];exact e4) ?_)))));have dN:DQ a1 (.ref N) (.list (c.nodes.map Ex)):=DQ.list (X4.get hN) (A4.nodes _);unfold DQ at dN;rw[EY,eY]at dN;have c1:BE 3 (.list (c.nodes.map Ex)):=(BE.seq fun d hd=>by refine AI (BD.mp hd) fun nd a8 b4=>?_;subst b4;exact BE.node (O.ops nd a8)).1;have b2:=NC (!ld rfl) c1;rw[EY,eY]at b2;have b1:BE 2 (Ex (n,ks)):=BE.node a2;refine Zct (R.up rfl) (DQ.node (n,ks)) dN (NC (!ld rfl) b1) b2 (BO ?_);have b3:((c.nodes.map fun x=>EY (Ex x)).any fun y=>HX y (EY (Ex (n,ks))))=decide ((n,ks)∈c.nodes):=by
    rw[List.any_map];have:∀nd∈c.nodes,((fun y=>HX y (EY (Ex (n,ks))))∘fun x=>EY (Ex x)) nd=decide (nd=(n,ks)):=fun nd a8=>by
     show HX (EY (Ex nd)) (EY (Ex (n,ks)))=_;refine AL (Ob (BE.node (O.ops nd a8)) b1) fun q1 q2=>?_;by_cases h:nd=(n,ks)
     ·rw[q1 (by rw[h]),decide_eq_true h]
     ·rw[q2 (fun e=>h (Zc3 e)),decide_eq_false h]
    rw[Bool.eq_iff_iff,List.any_eq_true,decide_eq_true_eq];constructor
    ·rintro⟨nd,h1,h2⟩;rw[this nd h1,decide_eq_true_eq]at h2;exact h2▸h1
    ·intro h1;exact⟨_,h1,by rw[this _ h1];simp⟩
   rw[b3];by_cases a6:(n,ks)∈c.nodes
   ·refine CQ (decide_eq_true a6) ?_;refine AG (by rw[f2 ⋯];exact e4) (q (n,ks) c4 L4 a1 N K a2 (by show ks.length≤2;exact AK (Ac a0) hm) a4 hM X4 (fun zz zz e=>e) ?_ F4.root);unfold Fa;rw[if_pos a6];exact hN
   ·refine Ba (decide_eq_false a6) ?_;refine CH (AG (by rw[f2 ⋯];exact e4) (Da (Ab (AG f1 ⟨!Cz _,fun E nE c8=>?_⟩))));have y1:An a1 (upd a1 E (.list [B1 (Nd.key (n,ks))])):=.new nE;have hE:upd a1 E (.list [B1 (Nd.key (n,ks))]) E=some (.list [B1 (Nd.key (n,ks))]):=Am _ _ _;have X5:=X4.ext0 y1;generalize upd a1 E (.list [B1 (Nd.key (n,ks))])=σ5 at*;refine Ka (X5.get hN) hE (by rw[AU];simp;exact ln z rfl) fun D5 b0 c6=>?_;have y2:An σ5 (upd σ5 D5 (.list (CN c.nodes++[B1 (Nd.key (n,ks))]))):=.new b0;have b6:upd σ5 D5 (.list (CN c.nodes++[B1 (Nd.key (n,ks))])) D5=some (.list (CN c.nodes++[B1 (Nd.key (n,ks))])):=Am _ _ _;refine q (n,ks) c4 L4 _ D5 _ a2 (by show ks.length≤2;exact AK (Ac a0) hm) a4 hM (X5.ext y2) X5.le ?_ F4.root;unfold Fa;rw[if_neg a6];unfold CX;rw[b0];show _=some (AO.list (Iu _ (c.nodes++[(n,ks)])));rw[Cw];exact b6
end
section
variable {nodes:List Nd} {pairs:List (Nat×Nat)} {hs:List Nat} {c c':HS}
def CC(nodes:List Nd)(pairs:List (Nat×Nat))(i j:Nat):Prop:=∀E,La nodes pairs E→E i j
theorem CC.refl(i:Nat):CC nodes pairs i i:=fun E C=>C.refl i
theorem CC.symm(h:CC nodes pairs i j):CC nodes pairs j i:=fun E C=>C.symm _ _ (h E C)
theorem CC.trans(h:CC nodes pairs i j)(h':CC nodes pairs j k):CC nodes pairs i k:=fun E C=>C.trans _ _ _ (h E C) (h' E C)
theorem CC.more(k:∀p∈pairs,p∈ps∨p.1=p.2)(h:CC nodes pairs i j):CC nodes ps i j:=fun E C=>h E ⟨C.refl,C.symm,C.trans,fun p hp=>(k p hp).elim (C.told p) fun e=>e▸C.refl _,C.cong⟩
theorem fV{h:Nat→Nat}(a:Di (fun i j=>h i=h j) xs ys):xs.map h=ys.map h:=by
 induction a with
 |nil=>rfl
 |cons e r m=>rw[CF,CF,e,m]
theorem MU.cc(X:MU nodes pairs hs)(hi:i<nodes.length)(hj:j<nodes.length):Aa hs i=Aa hs j↔CC nodes pairs i j:=by
 constructor
 ·intro e E C;have a:=X.sound E C i hi;have b:=X.sound E C j hj;rw[e]at a;exact C.trans _ _ _ a (C.symm _ _ b)
 ·intro h;exact h (fun i j=>Aa hs i=Aa hs j) ⟨fun zz=>rfl,fun zz zz e=>e.symm,fun zz zz zz a b=>a.trans b,X.told,fun i j m n e1 e2 e3 e4=>X.cong i j m n e1 e2 (Prod.ext e3 (fV e4))⟩
theorem bd(f:Nat→Nat)(cs:List Nat)(k:Nat):AH (CU f cs) k=if cs.filter (fun a=>f a=k)=[]then none else some (cs.filter fun a=>f a=k):=by
 induction h:cs.length generalizing cs with
 |zero=>rw[j5.mp h];rfl
 |succ n ih=>
  obtain⟨m,a,rfl⟩:∃m a,cs=m++[a]:=by
   rcases UP cs with rfl|⟨x,y,e⟩
   ·cases h
   ·exact⟨x,y,by rw[e,UQ]⟩
  rw[VN,Gc,Dt,ih m (by simpa using h),jK];by_cases e:k=f a
  ·subst e;rw[if_pos rfl,ih m (by simpa using h)];have:List.filter (fun b=>decide (f b=f a)) [a]=[a]:=by simp
   rw[this];split
   ·rename_i q;rw[q];exact rfl
   ·rw[if_neg (by simp)];rfl
  ·rw[if_neg e];have:List.filter (fun b=>decide (f b=k)) [a]=[]:=by simp[Ne.symm e]
   rw[this,T8]
theorem rY{f h:Nat→Nat}{cs a0:List Nat}(ac:cs.Pairwise (· <·))(ah:a0.Pairwise (· <·))(k1:∀a∈cs,∀b∈cs,(f a=f b↔h a=h b))(k2:∀z,z∈a0↔z∈cs∧h z=z)(k3:∀a∈cs,h a∈cs∧h (h a)=h a∧h a≤a):
  (CU f cs).map (·.2)=a0.map fun z=>cs.filter fun a=>h a=z:=by
 refine Ii (Y8 f ac) fun ks g0 g1 g2 g3=>?_;have gv:∀p∈CU f cs,p.2=cs.filter (fun a=>f a=p.1)∧p.2≠[]:=fun p hp=>by
  have:=VX g0 (show(p.1,p.2)∈CU f cs from hp);rw[bd]at this;split at this
  ·exact As this
  ·rename_i q;have e:=Ao this;exact⟨e.symm,by rw[←e];exact q⟩
 have n:(CU f cs).map (fun p=>p.2.head?.getD 0)=ks:=by
  have:=congrArg (Iu fun o:Option Nat=>o.getD 0) g1;rw[Bx,Bx]at this;rw[show ks.map ((fun o:Option Nat=>o.getD 0)∘some)=ks from Qe ks]at this;exact this
 have hd:∀p∈CU f cs,∃z,p.2.head? =some z∧z∈cs∧f z=p.1∧h z=z:=fun p hp=>by
  refine AL (gv p hp) fun e1 e2=>?_;cases hq:p.2 with
  |nil=>exact absurd hq e2
  |cons z r=>
   have hz:z∈cs.filter (fun a=>f a=p.1):=by rw[←e1,hq];exact .head _
   refine AL (Dn.mp hz) fun z1 z2=>?_;have z2:f z=p.1:=by simpa using z2
   refine⟨z,rfl,z1,z2,?_⟩;refine BN (k3 z z1) fun m1 m2 m3=>?_;have hm:h z∈p.2:=by
    rw[e1];refine Dn.mpr ⟨m1,?_⟩;have:=(k1 (h z) m1 z z1).mpr m2;simp[this,z2]
   rw[hq]at hm;rcases A7.mp hm with e|hm
   ·exact e
   ·have a2:(z::r).Pairwise (· <·):=by rw[←hq,e1];exact ac.filter _
    have:=(Jt.mp a2).1 _ hm;exact Ep m3 (Cy this)
 have a3:ks=a0:=by
  refine Uo g2 ah fun z=>?_;rw[←n,k2];constructor
  ·intro m;refine AI (BD.mp m) fun p hp a1=>?_;subst a1;refine Ii (hd p hp) fun z e z1 _ z3=>?_;rw[e];exact⟨z1,z3⟩
  ·rintro⟨z1,z2⟩;have ne:cs.filter (fun a=>f a=f z)≠[]:=fun e=>by
    have:z∈cs.filter (fun a=>f a=f z):=Dn.mpr ⟨z1,by simp⟩;rw[e]at this;cases this
   have hl:=bd f cs (f z);rw[if_neg ne]at hl;have hp:=LO hl;refine Ii (hd _ hp) fun y e y1 y2 y3=>?_;refine BD.mpr ⟨_,hp,?_⟩;rw[e];show y=z;have:=(k1 y y1 z z1).mp y2;rw[←y3,←z2,this]
 rw[←a3,←n,Bx];refine Dz fun p hp=>?_;refine Ii (hd p hp) fun z e z1 z2 z3=>?_;show p.2=cs.filter fun a=>decide (h a=p.2.head?.getD 0);refine AL (gv p hp) fun e1 _=>?_;rw[e];show p.2=_;rw[e1];refine UN fun a ha=>?_;show decide (f a=p.1)=decide (h a=z);rw[←z2];have:=k1 a ha z z1;rw[z3]at this;exact decide_eq_decide.mpr this
variable {σ σ' σ'' τ:AA} {A:AX} {env:Af} {ρ:AW} {L L':AZ} {K:AA} {H C:AB} {cells:List Int} {l:List Af} {told:List (Nat×Nat)} {By:HS→Prop} {ph:Dat}
structure Ff(By:HS→Prop)(nodes:List Nd)(told:List (Nat×Nat))(ph:Dat):Prop where
 nds:∀c,By c→c.nodes=nodes
 pht:∀c,By c→I9 c=ph
 S:∀c,By c→D0 c
 ed:∀c,By c→∀e∈c.edges,HB e
 mrk:∀c,By c→c.marks.length≤900
 z:nodes.length≤60
 pos:0<nodes.length
 dup:nodes.Nodup
 tin:∀p∈told,p.1<nodes.length∧p.2<nodes.length
 tz:told.length≤100
 root:∀c,By c→∀x<nodes.length,CC nodes told (c.find x) x
 tri:∀c,By c→∀ps:List (Nat×Nat),(∀p∈ps,p.1<nodes.length∧p.2<nodes.length)→ps.length≤8→
  ∃Mid,Sp c ps Mid By∧∀c',Mid c'→Bz c'.uab∧c'.uab.length=c.uab.length∧∀i j,i<nodes.length→j<nodes.length→(c'.find i=c'.find j↔CC nodes (told++ps) i j)
theorem Ff.len(G:Ff By nodes told ph)(g:By c):c.uab.length=nodes.length:=by rw[←(G.S c g).nl,G.nds c g]
theorem Ff.kid(G:Ff By nodes told ph)(g:By c)(h:nd∈nodes):nd.2.length≤2∧∀k∈nd.2,k<nodes.length:=by
 refine AY (US h) fun i m=>?_;have:=(G.S c g).kids i nd (by rw[G.nds c g];exact m);rw[G.len g]at this;exact this
theorem Ff.ok(G:Ff By nodes told ph)(g:By c):BE 5 ph:=by rw[←G.pht c g];exact yo (G.ed c g)
theorem Ff.home(G:Ff By nodes told ph)(g:By c)(X:MU nodes (told++ps) hs){z:Nat}(m:z<nodes.length)(e:Aa hs z=z):z∈BU c:=by
 have n:=G.len g;have U:=(G.S c g).U;have h1:=G.root c g z m;have hf:c.find z<nodes.length:=by rw[←n];exact iQ U (!AK m (Ac n.symm))
 have h2:=(X.cc hf m).mpr (h1.more fun p hp=>.inl (Jo _ hp));have h3:=X.le (c.find z);have h4:c.find z≤z:=Jy c.uab z;have h5:c.find z=z:=by exact Ep h4 (AK (AK (Ac e.symm) (Ac h2.symm)) h3)
 have h6:=NQ U (a:=z) (!AK m (Ac n.symm));rw[h5]at h6;exact Dn.mpr ⟨MH.mpr (!AK m (Ac n.symm)),by simp[h6]⟩
theorem Ff.lots(G:Ff By nodes told ph)(g:By c)(X:MU nodes (told++ps) hs)(hf:∀i j,i<nodes.length→j<nodes.length→(f i=f j↔CC nodes (told++ps) i j)):
  MJ f (BU c)=((Internal.ss hs).map fun z=>(BU c).filter fun a=>Aa hs a=z).filter fun l=>decide (1<l.length):=by
 have hl:=G.len g;have n:∀a∈BU c,a<nodes.length:=fun a ha=>by rw[←hl];exact RU ha
 have:=rY (f:=f) (h:=Aa hs) (ft c) (Om hs) (fun a ha b hb=>(hf a b (n a ha) (n b hb)).trans (X.cc (n a ha) (n b hb)).symm) (fun z=>?_) (fun a ha=>?_)
 ·unfold MJ;rw[←this,Js];rfl
 ·rw[Mb];constructor
  ·intro m;obtain⟨i,hi,e⟩:=List.mem_iff_getElem.mp m;have e2:Aa hs i=z:=by simp[Aa,hi,e]
   have a0:z<nodes.length:=by have:=X.le i;have:=X.len;exact Hi ug hi e2 (by assumption) this
   have e3:Aa hs z=z:=by rw[←e2];exact X.idem i
   exact⟨G.home g X a0 e3,e3⟩
  ·rintro⟨m,e⟩;have:=n z m;have h2:=PT (hs:=hs) (i:=z) (by rw[X.len];exact this);rw[e]at h2;exact DE h2
 ·have a1:=n a ha;have h1:=X.le a;exact⟨G.home g X (!AK (CG h1) a1) (X.idem a),X.idem a,h1⟩
theorem At.photo(B:Aj)(R:Ah A 5)(X:At σ c L K H C cells)(G:Ff By nodes told ph)(g:By c)(hN:K N=some (.list (CN nodes)))
  (q:∀v σ',An σ σ'→At σ' c L (CX K σ σ') H C cells→DQ (CX K σ σ') v ph→Φ v σ'):AF A (.ref 545) [.ref (L .hp),.ref N] σ Φ:=by
 have e:=G.nds c g;refine Zcd B R X.P (G.S c g) (by rw[e];exact X.get hN) (G.ed c g) (by have:=G.mrk c g;exact ln this rfl) (by rw[e];have:=G.z;exact ln this rfl) fun v σ' x d=>q v σ' x (X.ext x) ?_;rw[G.pht c g]at d;exact d.le (yn K)
end
section
variable {σ σ' σ'' τ:AA} {A:AX} {env:Af} {ρ:AW} {c c':HS} {L L':AZ} {K:AA} {H C:AB} {cells:List Int} {l:List Af} {nodes:List Nd} {told:List (Nat×Nat)} {hs:List Nat} {By:HS→Prop} {ph:Dat}
theorem vJ(w:AD):Co (KK w) Bk "_law_pair"=some (some (.ref 535)):=∅
theorem Xw(B:Aj)(R:Ah A 2)(X:At σ c L K H C cells)(hN:K N=some (.list (CN nodes)))(hn:0<nodes.length)(hz:nodes.length≤60)(hx:ρ "hand"=some (.ref H))(hy:ρ "nodes"=some (.ref N))
  (q:∀a b σ',a<nodes.length→b<nodes.length→At σ' c L K H C cells→Φ (.tup [.int (a:Nat),.int (b:Nat)]) σ')
  (h1:autoParam (Ck (env.kindOf "hand")=true) aR)(n:autoParam (Ck (env.kindOf "nodes")=true) aR)(h2:autoParam (env.kindOf "_law_pair"=some .globalImplicit) aR)(h3:autoParam (env.scope.kind=.function) aR)(h4:autoParam (env.globals=Bk) aR):
  EV A env (.Call (.Name "_law_pair" p1) [.Name "hand" p2,.Name "nodes" p3] [] p4) ρ σ Φ:=by
 refine B0 X.hand fun p q0 h=>?_;refine Hy B (vJ w) (eI w) (BX (AG hx (AG hy ?_ n h3) h1 h3)) h2 h3 h4 ⋯ ();refine xD B R h (X.get hN) (by rw[AU];exact hn) (by rw[AU];exact ln hz rfl) fun a b p' q' σ' ha m k h'=>?_;rw[AU]at ha m;exact q a b σ' ha m (X.pick k h')
theorem sK(ps:List (Nat×Nat))(a b:Nat):A1 (ps.map Ay)++[AV.tup [.int (a:Nat),.int (b:Nat)]]=A1 ((ps++[(a,b)]).map Ay):=by simp
theorem JG{K K' m:AA}(a:∀x y,K x=some y→K' x=some y)(b:∀x y,K' x=some y→m x=some y):∀x y,K x=some y→m x=some y:=fun x y e=>b x y (a x y e)
theorem Gn(n:σ D=none)(e:σ' D=some x):CX K σ σ' D=some x:=by unfold CX;rw[n];exact e
theorem Xo(B:Aj)(R:Ah A 5)(X:At σ c L K H C cells)(G:Ff By nodes told ph)(g:By c)(hN:K N=some (.list (CN nodes)))(dv:DQ K v ph)(hh:L .hp=hp)
  (hx:ρ "heap_now"=some (.ref hp))(hy:ρ "nodes"=some (.ref N))(hv:ρ "photo"=some v)(q:∀σ',At σ' c L K H C cells→Φ false σ')
  (h1:autoParam (Ck (env.kindOf "heap_now")=true) aR)(a1:autoParam (Ck (env.kindOf "nodes")=true) aR)(m:autoParam (Ck (env.kindOf "photo")=true) aR)(h2:autoParam (env.kindOf "_law_photo"=some .globalImplicit) aR)(n:autoParam (env.scope.kind=.function) aR)(h4:autoParam (env.globals=Bk) aR):
  TR A env (.Compare (.Call (.Name "_law_photo" p1) [.Name "heap_now" p2,.Name "nodes" p3] [] p4) [.NotEq] [.Name "photo" p5] p6) ρ σ Φ:=by
 subst hh;refine Bj (Hy B (cn w) (XQ w) (BX (AG hx (AG hy ?_ a1 n) h1 n)) h2 n h4 ⋯ ()) ();refine X.photo B R G g hN fun u a0 x1 X1 d1=>AG hv ?_ m n;exact Xs (R.lo rfl) (d1.le fun a x e=>X1.get e) (dv.le fun a x e=>X1.get (X.le a x e)) (G.ok g) (G.ok g) (!ld rfl) (!ld rfl) (fun zz=>BO (q a0 (X1.sub X.le))) fun ne=>absurd rfl ne
theorem qG:CC nodes (told++(ps++[(a,a),(b,b)])) i j↔CC nodes (told++ps) i j:=by
 constructor
 ·refine CC.more fun p hp=>?_;simp only[CE,A7,HY,or_false]at hp ⊢;rcases hp with h|h|rfl|rfl
  ·exact .inl (.inl h)
  ·exact .inl (.inr h)
  ·exact .inr rfl
  ·exact .inr rfl
 ·refine CC.more fun p hp=>.inl ?_;simp only[CE]at hp ⊢;rcases hp with h|h
  ·exact .inl h
  ·exact .inr (.inl h)
structure Pk(K:AA)(n:Nat)(v:AV):Prop where
 ex:∃(l:AB)(ps:List (Int×Int))(m:Int)(whole:Bool)(N:Nat)(i0:Int),v=.tup [.ref l,.int m,.bool whole]∧K l=some (.list (A1 ps))∧ps.length≤800∧Mq n (CB (if whole then ps else ps++[(m,m),(0,0)])) N i0
def Zdk{a0 n m}{c:Prop}:=@Pk.casesOn a0 n m (fun zz=>c)
theorem V3(a b:List (Int×Int)):CB (a++b)=CB a++CB b:=by unfold CB;rw[Cw,Zfp]
theorem SQ{n:Nat}{is js:List Int}{m:Int}(h:∀i∈is,0≤i∧i<(n:Int))(h0:js.head? =some m)(hb:¬(0≤m∧m<(n:Int)))(hs:m.natAbs<1000):Mq n (is++js) is.length m:=by
 refine⟨?_,hb,hs,fun j x hj e=>?_⟩
 ·rw[It (A9 _),Qf];cases js with
  |nil=>exact As h0
  |cons y ys=>exact h0
 ·rw[Es hj]at e;exact h x (DE e)
set_option maxHeartbeats 2000000 in
def U7(σ:AA)(A:AX)(c:HS)(L:AZ)(K:AA)(H:AB)(C:AB)(cells:List Int)(l:List Af)(nodes:List Nd)(told:List (Nat×Nat))(By:HS→Prop)(N:AB)(m:AB)(t:AB)(dx:AB)(Φ:AV→AA→Prop):Prop:=∀{ph:Dat}(B:Aj)(R:Ah A 14)(al:LQ A σ l)(X:At σ c L K H C cells)(G:Ff By nodes told ph)(g:By c)(hN:K N=some (.list (CN nodes)))(n:K m=some (.list (A1 (told.map Ay))))(T:Cu K t dx (L .hp))(fk:∀b∈fl l,∃o,K b=some (.frz o))(q:∀c' L' σ',By c'→At σ' c' L' K H C cells→L' .hp=L .hp→Φ (.bool true) σ'),AF A (.ref 557) [.ref H,.ref t,.ref N,.ref m] σ Φ
def gJ:((((AA×AX)×HS)×(AZ×AA))×((AB×AB)×(List Int×List Af)))×(((List Nd×(List (Nat×Nat)))×((HS→Prop)×AB))×((AB×AB)×(AB×(AV→AA→Prop))))→Prop:=fun t=>U7 t.1.1.1.1.1 t.1.1.1.1.2 t.1.1.1.2 t.1.1.2.1 t.1.1.2.2 t.1.2.1.1 t.1.2.1.2 t.1.2.2.1 t.1.2.2.2 t.2.1.1.1 t.2.1.1.2 t.2.1.2.1 t.2.1.2.2 t.2.2.1.1 t.2.2.1.2 t.2.2.2.1 t.2.2.2.2
def E9:=zE gJ ((((((fun _=>none),{}),De),((fun _=>0),(fun _=>none))),((0,0),([],[]))),((([],[]),((fun _=>True),0)),((0,0),(0,(fun _ _=>True)))))
def KD:=E9.1.1.1.1.1
def dP:=E9.1.1.1.1.2
def LF:=E9.1.1.1.2
def Ie:=E9.1.1.2.1
def Xh:=E9.1.1.2.2
def Jx:=E9.1.2.1.1
def Ma:=E9.1.2.1.2
def Ms:=E9.1.2.2.1
def Fc:=E9.1.2.2.2
def DB:=E9.2.1.1.1
def Mj:=E9.2.1.1.2
def pB:=E9.2.1.2.1
def RR:=E9.2.1.2.2
def Uq:=E9.2.2.1.1
def IQ:=E9.2.2.1.2
def KJ:=E9.2.2.2.1
def Zbc:=E9.2.2.2.2
set_option maxHeartbeats 2000000 in
theorem ko:U7 KD dP LF Ie Xh Jx Ma Ms Fc DB Mj pB RR Uq IQ KJ Zbc:=fun{ph} B R al X G g hN hT T fk q=>by
 have z:=G.z;have e9:=G.pos;have tz:=G.tz;refine GU (F:=(fA w)) (names:=["hand","trial","nodes","told"]) B R rfl (fun Lf=>?_) (Ku fun zz zz zz zz=>rfl) rfl ∅
 ·have T0:∀{KD LF L'},At KD LF L' Xh Jx Ma Ms→Cu KD IQ KJ (Ie .hp):=fun X=>⟨X.get T.1,X.get T.2⟩;refine AJ (NR (names:=["heap_now","photo","far"]) R.handled () (Bw (GT (BM B () (T0 X) (Fj w) Fi (Hy B (cn w) (XQ w) (BX (BM B () (T0 X) (Fj w) Fi (AG () ?_))))))));refine X.photo B (R.up rfl) G g hN fun v p6 x1 X1 d1=>?_;refine Bo B (Cb w) Ca (Ab (AG () (Cj (X1.get (X.le _ _ hN)) (by rw[AU];exact ln z rfl) ⟨!ld rfl,_,.tup _,rfl,BZ (GW () (BZ (GW () (BZ (GW () (Dm ?_))))))⟩)));rw[AU];have k1:=X.le (σ':=p6);generalize CX Xh KD p6=K1 at*;have hN1:=k1 _ _ hN;have hT1:=k1 _ _ hT;have T1:Cu K1 IQ KJ (Ie .hp):=⟨k1 _ _ T.1,k1 _ _ T.2⟩;have T1':∀{KD LF L'}{K':AA},(∀a x,K1 a=some x→K' a=some x)→At KD LF L' K' Jx Ma Ms→Cu KD IQ KJ (Ie .hp):=fun k X=>⟨X.get (k _ _ T1.1),X.get (k _ _ T1.2)⟩;generalize c5:put (put (put (B8 ["hand","trial","nodes","told"] [.ref Jx,.ref IQ,.ref RR,.ref Uq]) "far" (.int (DB.length:Nat))) "photo" v) "heap_now" (.ref (Ie .hp))=ρ1;have a1:ρ1 "hand"=some (.ref Jx):=by rw[←c5];rfl
  have a2:ρ1 "trial"=some (.ref IQ):=by rw[←c5];rfl
  have a3:ρ1 "nodes"=some (.ref RR):=by rw[←c5];rfl
  have a4:ρ1 "told"=some (.ref Uq):=by rw[←c5];rfl
  have a5:ρ1 "far"=some (.int (DB.length:Nat)):=by rw[←c5];rfl
  have a6:ρ1 "photo"=some v:=by rw[←c5];rfl
  have a7:ρ1 "heap_now"=some (.ref (Ie .hp)):=by rw[←c5];rfl
  clear c5;refine AJ (Xl R.handled (Le (Fl B (Jf w) JS ⟨rfl,Ab (Ng B (R.up rfl) X1 a1 (m:=3) (!ld rfl) (fun q=>BB q) fun r σ2 hr X2 s2=>⟨r,rfl,!ln hr rfl,⟨_,_,rfl⟩,r,
   fun i ys σ'=>i≤r∧At σ' LF Ie K1 Jx Ma Ms∧∃ps:List (Nat×Nat),ys=A1 (ps.map Ay)∧ps.length=i∧∀p∈ps,p.1<DB.length∧p.2<DB.length,⟨!Be _,X2,[],rfl,rfl,by simp⟩,!ln (Cy hr) rfl,?_⟩)⟩ ⋯ () () () ())) ())
  rintro i ys d4 ⟨hi,X3,ps,rfl,d3,c3⟩;refine⟨hi,_,rfl,?_⟩;by_cases f1:i<r
  ·rw[if_pos f1];intro Cc;refine Xw B (R.up rfl) X3 hN1 e9 z (by rw[AP ⋯,FY ⋯];exact a1) (by rw[AP ⋯,FY ⋯];exact a3) fun a b s0 ha c1 X4=>?_;refine⟨!f1,X4,ps++[(a,b)],sK ps a b,by simp[d3],fun p hp=>?_⟩;rcases CE.mp hp with h|h
   ·exact c3 p h
   ·rw[Ap.mp h];exact⟨ha,c1⟩
  rw[if_neg f1];intro D nD nbD;have x4:An d4 (upd d4 D (.list (A1 (ps.map Ay)))):=.new nD;have X4:=X3.ext x4;have k2:=X3.le (σ':=upd d4 D (.list (A1 (ps.map Ay))));have hD:CX K1 d4 (upd d4 D (.list (A1 (ps.map Ay)))) D=some (.list (A1 (ps.map Ay))):=Gn nD (Am _ _ _);generalize upd d4 D (.list (A1 (ps.map Ay)))=s0 at*;generalize CX K1 d4 s0=K2 at*;refine A2 ?_;have i0:=JG k1 k2;have hD1:=hD;have z6:∀p∈Mj++ps,p.1<DB.length∧p.2<DB.length:=fun p hp=>(CE.mp hp).elim (G.tin p) (c3 p);have s1:ps.length≤2:=by exact BS zD hr hi d3
  have b0:put ρ1 "pairs" (.ref D) "pairs"=some (.ref D):=Ar;have bo:∀{y:Str},y≠("pairs":Str)→put ρ1 "pairs" (.ref D) y=ρ1 y:=fun h=>AP h;generalize put ρ1 "pairs" (.ref D)=ρ2 at*;rw[←bo ⋯]at a1 a2 a3 a4 a5 a6 a7;clear bo;refine AJ (BR (Xw B (R.up rfl) X4 (i0 _ _ hN) e9 z a1 a3 fun a b i1 ha c1 X5=>?_));refine FB R.handled (.tup _) rfl (BZ (A2 (BZ (A2 (Dm ?_)))));have a8:put (put ρ2 "a" (.int (a:Nat))) "b" (.int (b:Nat)) "a"=some (.int (a:Nat)):=by rw[AP ⋯];exact Ar
  have a9:put (put ρ2 "a" (.int (a:Nat))) "b" (.int (b:Nat)) "b"=some (.int (b:Nat)):=Ar;have bo:∀{y:Str},y≠("a":Str)→y≠("b":Str)→put (put ρ2 "a" (.int (a:Nat))) "b" (.int (b:Nat)) y=ρ2 y:=fun h h'=>by rw[AP h',AP h]
  generalize put (put ρ2 "a" (.int (a:Nat))) "b" (.int (b:Nat))=ρ3 at*;rw[←bo ⋯ ⋯]at a1 a2 a3 a4 a5 a6 a7 b0;clear bo;have z0:=X5.get (i0 _ _ hT);have i2:=X5.get hD;refine AJ (BR (Hy B (Z1 w) (Ua w) (BX (AG a3 (CH (AG a4 (AG b0 (Ka z0 i2 (by rw[AU,AU,AU,AU];exact Cf lI tz hr hi d3) fun E nE nbE=>?_))))))));have x6:An i1 (upd i1 E (.list (A1 (Mj.map Ay)++A1 (ps.map Ay)))):=.new nE;have hE:upd i1 E (.list (A1 (Mj.map Ay)++A1 (ps.map Ay))) E=some (.list (A1 ((Mj++ps).map Ay))):=by rw[Am];simp
  have X6:=X5.ext0 x6;generalize upd i1 E (.list (A1 (Mj.map Ay)++A1 (ps.map Ay)))=σ6 at*;refine bc B (R.up rfl) (X6.get (i0 _ _ hN)) hE G.dup (fun nd p2=>(G.kid g p2).2) (fun nd p2=>by have:=(G.kid g p2).1;exact ln this rfl) z6 z (by rw[BJ];exact Cf Zbp tz hr hi d3) fun Db hs k0 x7 nDb z3 Hs=>A2 ?_;have X7:=X6.ext x7;have k3:=X6.le (σ':=k0);have n4:CX K2 σ6 k0 Db=some (.list (nats hs)):=Gn nDb z3;generalize CX K2 σ6 k0=K3 at*;have e7:=JG i0 k3;have p0:=k3 _ _ hD;have c0:put ρ3 "behind" (.ref Db) "behind"=some (.ref Db):=Ar;have bo:∀{y:Str},y≠("behind":Str)→put ρ3 "behind" (.ref Db) y=ρ3 y:=fun h=>AP h;generalize put ρ3 "behind" (.ref Db)=ρ4 at*;rw[←bo ⋯]at a1 a2 a3 a4 a5 a6 a7 b0 a8 a9;clear bo;have g2:=Hs.len;refine AI (G.tri LF g (ps++[(a,a),(b,b)]) (fun p hp=>by
   rcases CE.mp hp with h|h
   ·exact c3 p h
   ·simp only[A7,HY,or_false]at h;rcases h with rfl|rfl
    ·exact⟨ha,ha⟩
    ·exact⟨c1,c1⟩) (by rw[BJ];simp;exact BS lA hr hi d3)) fun Mid Tr hM=>?_
  have T7:Cu k0 IQ KJ (Ie .hp):=⟨X7.get (e7 _ _ T.1),X7.get (e7 _ _ T.2)⟩;refine AJ (CP (Lm (HN (Bj (Bu B a2 T7 () (bT w) (TD w) (GT (AG b0 (AG a8 (AG a9 ?_)))))))));refine ow B (R.up rfl) X7.P Tr (fun c' m=>⟨(hM c' m).1,(hM c' m).2.1⟩) T7 (X7.out (e7 _ _ T.1)) (X7.out (e7 _ _ T.2)) (X7.get p0) fun c8 c9 L9 σ9 m8 g9 P9 F9=>?_;have X9:=X7.fm P9 F9;have r9:=F9.root;have d5:=X9.get n4;refine Nf (CV (AG c0 (AG a8 ⟨⟨_,_,.list d5⟩,En d5 (!A6 o0) (J2 (!AK ha (Ac g2.symm))) (!Al o4 z ha) (CV (AG c0 (AG a9 ⟨⟨_,_,.list d5⟩,En d5 (!A6 o0) (J2 (!AK c1 (Ac g2.symm))) (!Al o4 z c1) (HP (Zdg (BO ?_)))⟩)))⟩)));have heq:decide (c8.find a=c8.find b)=decide (((Aa hs a:Nat):Int)=(Aa hs b:Nat)):=by
   refine decide_eq_decide.mpr ?_;rw[(hM c8 m8).2.2 a b ha c1,qG,←Hs.cc ha c1];exact Al va
  rw[heq,beq_self_eq_true];refine Ba Iv ?_;have dv:=(d1.le k2).le k3;refine HN (Xo B (R.up rfl) X9 G g9 (e7 _ _ hN) dv r9 a7 a3 a6 fun m3 g3=>?_);refine Ba rfl ?_;refine NK ?_;refine Ba rfl ?_;refine Ax ?_;have r0:ρ4 "heap_now"=some (.ref (L9 .hp)):=by rw[r9];exact a7
  refine AJ (BR (Bu B r0 g3.P.iH () (Ql w) (OY w) (AC.nil (SD B (R.up rfl) g3.P (G.S c9 g9).U fun Dc b5 hDc nDc x5 F11=>A2 ?_))));have z5:=F11.ext g3.P x5;have d2:=g3.ext z5;have k4:=g3.le (σ':=b5);have m4:CX K3 m3 b5 Dc=some (.list (nats (BU c9))):=Gn nDc hDc;generalize CX K3 m3 b5=K4 at*;have g1:=k4 _ _ n4;have e0:put ρ4 "classes" (.ref Dc) "classes"=some (.ref Dc):=Ar;have bo:∀{y:Str},y≠("classes":Str)→put ρ4 "classes" (.ref Dc) y=ρ4 y:=fun h=>AP h;generalize put ρ4 "classes" (.ref Dc)=ρ5 at*;rw[←bo ⋯]at a2 a3 a5 a6 a7 b0 c0;clear bo r0 a1 a4 a8 a9;have c6:(BU c9).length≤60:=AK (OB _ _) (by rw[MF,G.len g9];exact z);have r5:(Internal.ss hs).length≤60:=by have:=XD (xs:=hs);exact AK (AK this (Ac g2)) z
  refine AJ (Zdm R.handled (FA (TT B R.handled (AG c0 ⟨Db,hs,rfl,d2.get g1,!ln (AK (CG (Ac g2)) (CG z)) rfl,fun Ds nDs nbs=>⟨Ds,nats (Internal.ss hs),rfl,Am _ _ _,trivial,(Internal.ss hs).length,
   fun i ys σ'=>i≤(Internal.ss hs).length∧An b5 σ'∧σ' Ds=some (.list (nats (Internal.ss hs)))∧ys=((Internal.ss hs).take i).map fun z=>.tup (nats ((BU c9).filter fun a=>decide (Aa hs a=z))),⟨!Be _,.new nDs,Am _ _ _,rfl⟩,!ln r5 rfl,?_⟩⟩))) ())
  rintro i ys c2 ⟨hi,f4,p3,rfl⟩;refine⟨hi,_,⟨_,p3,rfl⟩,?_⟩;cases hq:(nats (Internal.ss hs))[i]? with
  |some x=>
   obtain⟨zz,hz,rfl⟩:∃n:Nat,(Internal.ss hs)[i]? =some n∧AV.int n=x:=by
    rw[CK]at hq;cases hz:(Internal.ss hs)[i]? with
    |none=>rw[hz]at hq;cases hq
    |some n=>rw[hz]at hq;exact⟨n,rfl,Ao hq⟩
   intro Cc Kc;have h4:c2 Dc=some (.list (nats (BU c9))):=by rw[f4 Dc (by rw[d2.get m4];exact Ag _)];exact d2.get m4
   have h6:c2 Db=some (.list (nats hs)):=by rw[f4 Db (by rw[d2.get g1];exact Ag _)];exact d2.get g1
   refine FF B (JD w) Jg (Ab (Pw R.handled (FA (AG (by rw[AP ⋯,FY ⋯];exact e0) ⟨Dc,_,rfl,h4,trivial,nats (BU c9),QB h4,by rw[AU];exact ln c6 rfl,
    fun v=>match v with|.int k=>decide (Aa hs k.toNat=zz)|_=>false,id,fun v hv C2=>?_,fun v hv x2 C2=>?_,fun D3 t1 nb3=>?_⟩)) ()))
   ·refine AI (BD.mp hv) fun k hk u4=>?_;subst u4;have t3:k<DB.length:=by rw[←G.len g9];exact RU hk
    refine Bj (CV (AG (by rw[AP ⋯,FY ⋯,AP ⋯,FY ⋯];exact c0) (AG Ar ⟨⟨_,_,.list h6⟩,En h6 (!A6 o0) (J2 (!AK t3 (Ac g2.symm))) (!Al o4 z t3) (AG (by rw[AP ⋯,FY ⋯];exact Ar) (HP (BO ⟨?_,rfl⟩)))⟩)));show _=decide (Aa hs (k:Int).toNat=zz);rw[EW];exact decide_eq_decide.mpr (!Al cf)
   ·exact AG Ar ⟨rfl,rfl⟩
   ·have hfl:((nats (BU c9)).filter fun v=>match v with|.int k=>decide (Aa hs k.toNat=zz)|_=>false).map id=nats ((BU c9).filter fun a=>decide (Aa hs a=zz)):=by
     rw[Qe,Js];rfl
    rw[hfl];have f3:((BU c9).filter fun a=>decide (Aa hs a=zz)).length≤60:=AK (OB _ _) c6;have f1:=(BY.mp hz).1;refine Lj (Am _ _ _) (by rw[AU];exact ln f3 rfl) ⟨!f1,f4.trans (.new t1),?_,?_⟩
    ·rw[Au _ _ (by rintro rfl;exact Bh ((p3.symm.trans t1)))];exact p3
    ·rw[G4,hz];simp
  |none=>
   have z1:(Internal.ss hs).length≤i:=by have:=Gb.mp hq;rwa [AU]at this
   rw[Io z1];intro Dl r4 nbl;refine A2 ?_;have z4:=f4.trans (An.new (x:=.list ((Internal.ss hs).map fun z=>.tup (nats ((BU c9).filter fun a=>decide (Aa hs a=z))))) r4);have c4:=d2.ext z4;have k5:=d2.le (σ':=upd c2 Dl (.list ((Internal.ss hs).map fun z=>.tup (nats ((BU c9).filter fun a=>decide (Aa hs a=z))))));have y1:CX K4 b5 (upd c2 Dl (.list ((Internal.ss hs).map fun z=>.tup (nats ((BU c9).filter fun a=>decide (Aa hs a=z)))))) Dl=some (.list ((Internal.ss hs).map fun z=>.tup (nats ((BU c9).filter fun a=>decide (Aa hs a=z))))):=Gn (f4.none r4) (Am _ _ _);generalize upd c2 Dl (.list ((Internal.ss hs).map fun z=>.tup (nats ((BU c9).filter fun a=>decide (Aa hs a=z)))))=σ13 at*;generalize CX K4 b5 σ13=K5 at*;have t2:=JG k4 k5;have e6:=JG e7 t2;have u2:=(dv.le k4).le k5;have f0:put ρ5 "lots" (.ref Dl) "lots"=some (.ref Dl):=Ar;have bo:∀{y:Str},y≠("lots":Str)→put ρ5 "lots" (.ref Dl) y=ρ5 y:=fun h=>AP h;generalize put ρ5 "lots" (.ref Dl)=ρ6 at*;rw[←bo ⋯]at a2 a3 a5 a6 a7 b0;clear bo c0 e0;refine AI (G.tri c9 g9 ps c3 (!BS om hr (by assumption) d3)) fun Mid2 Tr2 p1=>?_;have q4:Cu σ13 IQ KJ (L9 .hp):=by rw[r9];exact⟨c4.get (e6 _ _ T.1),c4.get (e6 _ _ T.2)⟩
   have i2:=t2 _ _ p0;have hcn:BU c9≠[]:=fun e=>by
    have U9:=(G.S c9 g9).U;have h0:=NQ U9 (a:=0) (by rw[G.len g9];exact e9);have h1:c9.find 0≤0:=Jy c9.uab 0;have h2:c9.find 0=0:=by exact Ep h1 (Be _)
    rw[h2]at h0;have:0∈BU c9:=Dn.mpr ⟨MH.mpr (by rw[G.len g9];exact e9),by simp[h0]⟩;rw[e]at this;cases this
   refine AJ (CP (Lm (HN (Bj (Bu B a2 q4 () (f6 w) (SL w) (Ab (AG b0 ?_)))))));refine vX B (R.up rfl) c4.P Tr2 (G.S c9 g9).U (fun c' m=>⟨(p1 c' m).1,(p1 c' m).2.1⟩) hcn (by rw[G.len g9];exact z) q4 (c4.out (e6 _ _ T.1)) (c4.out (e6 _ _ T.2)) (c4.get i2) (c4.out i2) fun p5 f5 h9 d6 Dj m14 f2 P15 q3 q6 fDj=>?_;have r6:=c4.fm P15 q3;have m1:h9 .hp=Ie .hp:=q3.root.trans r9;have h7:=r6.get y1;refine Pw R.handled (FA (AG f0 ⟨Dl,_,rfl,h7,trivial,_,QB h7,by rw[AU];exact ln r5 rfl,fun v=>match v with|.tup xs=>decide (1<xs.length)|_=>false,id,fun v hv C2=>?_,fun v hv x2 C2=>AG Ar ⟨rfl,rfl⟩,fun D6 nD6 nb6=>?_⟩)) ()
   ·refine AI (BD.mp hv) fun zz hz r3=>?_;subst r3;have f3:((BU c9).filter fun a=>decide (Aa hs a=zz)).length≤60:=AK (OB _ _) c6;refine Bj (Bo B (Cb w) Ca (Ab (AG Ar (Zcu (by rw[AU];exact ln f3 rfl) (BB (KW (BO ⟨?_,rfl⟩)))))));show _=decide (1<(nats _).length);exact decide_eq_decide.mpr (!A6 cS)
   ·have w2:An d6 (upd d6 D6 (.list ((((Internal.ss hs).map fun z=>AV.tup (nats ((BU c9).filter fun a=>decide (Aa hs a=z)))).filter fun v=>match v with|.tup xs=>decide (1<xs.length)|_=>false).map id))):=.new nD6
    have z2:upd d6 D6 (.list ((((Internal.ss hs).map fun z=>AV.tup (nats ((BU c9).filter fun a=>decide (Aa hs a=z)))).filter fun v=>match v with|.tup xs=>decide (1<xs.length)|_=>false).map id)) D6=some (.list ((MJ p5.find (BU c9)).map fun Fc=>.tup (nats Fc))):=by
     rw[Am,Qe,G.lots g9 Hs (p1 p5 m14).2.2,Js,Js,Bx];have:∀z,((fun v=>match v with|.tup xs=>decide (1<xs.length)|_=>false)∘fun z=>AV.tup (nats ((BU c9).filter fun a=>decide (Aa hs a=z)))) z=((fun Fc=>decide (1<Fc.length))∘fun z=>(BU c9).filter fun a=>decide (Aa hs a=z)) z:=fun z=>by
      show decide (1<(nats _).length)=_;rw[AU];rfl
     rw[funext this];rfl
    have X16:=r6.ext0 w2;have n5:=(w2 Dj (by rw[q6];exact Ag _)).trans q6;generalize upd d6 D6 (.list ((((Internal.ss hs).map fun z=>AV.tup (nats ((BU c9).filter fun a=>decide (Aa hs a=z)))).filter fun v=>match v with|.tup xs=>decide (1<xs.length)|_=>false).map id))=σ16 at*
    have dl:∀ls:List (List Nat),A4 σ16 (ls.map fun Fc=>.tup (nats Fc)) (ls.map fun Fc=>.tuple (Fc.map fun(n:Nat)=>.int n)):=fun ls=>by
     induction ls with
     |nil=>exact A4.nil
     |cons Fc ls ih=>exact A4.cons (DQ.tup (A4.nats _)) ih
    have ol:BE 2 (.list ((MJ p5.find (BU c9)).map fun Fc=>.tuple (Fc.map fun(n:Nat)=>.int n))):=(BE.seq fun d hd=>by
     refine AI (BD.mp hd) fun Fc zz w1=>?_;subst w1;exact(BE.seq fun d hd=>by refine AI (BD.mp hd) fun n zz p9=>?_;subst p9;exact .int _ _).2).1
    refine Xs (R.up rfl) (DQ.list n5 (dl _)) (DQ.list z2 (dl _)) ol ol (!ld rfl) (!ld rfl) (fun zz=>BO ?_) fun ne=>absurd rfl ne;refine Ba rfl ?_;refine HN (Xo B (R.up rfl) X16 G f2 (e6 _ _ hN) u2 m1 a7 a3 a6 fun a0 q1=>?_);refine Ba rfl ?_;refine NK ?_;refine Ba rfl ?_;refine Ax ?_;have m2:=k5 _ _ (k4 _ _ p0);have v2:∀i∈CB (ps.map Ay),0≤i∧i<(DB.length:Int):=gq c3;refine AJ (BR (Da (AC.cons (Bw (GT (AG b0 (AG a5 (Ln ⟨!ld rfl,?_⟩))))) (by intro zz;rfl))));refine AC.cons (Bw (GT (Da (AC.nil ⟨!Be _,fun E2 s5 zz=>Px (BB (QF (Ln ⟨!ld rfl,?_⟩)))⟩)))) (by intro zz;rfl);have y2:An a0 (upd a0 E2 (.list [])):=.new s5;have X18:=q1.ext y2;have k6:=q1.le (σ':=upd a0 E2 (.list []));have hE2:CX K5 a0 (upd a0 E2 (.list [])) E2=some (.list []):=Gn s5 (Am _ _ _);generalize upd a0 E2 (.list [])=σ18 at*;generalize CX K5 a0 σ18=K6 at*;refine AC.cons (Bw (GT (CH (AG b0 (Da (Ab (Bw (BX (AG a5 (BB ⟨!ld rfl,!Cz _,fun E3 nE3 zz=>?_⟩)))))))))) (by intro zz;rfl);have y3:An σ18 (upd σ18 E3 (.list [.tup [.int (DB.length:Nat),.int 0]])):=.new nE3;have hE3:upd σ18 E3 (.list [.tup [.int (DB.length:Nat),.int 0]]) E3=some (.list [.tup [.int (DB.length:Nat),.int 0]]):=Am _ _ _;have o3:=X18.ext0 y3;generalize upd σ18 E3 (.list [.tup [.int (DB.length:Nat),.int 0]])=σ19 at*;have v1:=o3.get (k6 _ _ m2);refine Ka v1 hE3 (by rw[AU,AU];simp;exact ln s1 rfl) fun E4 v3 zz=>BB (Ln ⟨!ld rfl,?_⟩);have y4:An σ19 (upd σ19 E4 (.list (A1 (ps.map Ay)++[.tup [.int (DB.length:Nat),.int 0]]))):=.new v3;have q0:=o3.ext y4;have k7:=o3.le (σ':=upd σ19 E4 (.list (A1 (ps.map Ay)++[.tup [.int (DB.length:Nat),.int 0]])));have hE4:CX K6 σ19 (upd σ19 E4 (.list (A1 (ps.map Ay)++[.tup [.int (DB.length:Nat),.int 0]]))) E4=some (.list (A1 (ps.map Ay++[(((DB.length:Nat):Int),(0:Int))]))):=by
     rw[Gn v3 (Am _ _ _)];simp
    generalize upd σ19 E4 (.list (A1 (ps.map Ay)++[.tup [.int (DB.length:Nat),.int 0]]))=σ20 at*;generalize CX K6 σ19 σ20=K7 at*;refine Ab (Bw (GT (Da (Ab (Bw (BX (BB (Px (BB (QF ⟨!ld rfl,!Cz _,fun E5 t4 zz=>BB (Ln ⟨!ld rfl,!ld rfl,fun E6 s3 zz=>A2 ?_⟩)⟩))))))))));have y5:An σ20 (upd σ20 E5 (.list [.tup [.int 0,.int (-1)]])):=.new t4;have p8:=q0.ext y5;have k8:=q0.le (σ':=upd σ20 E5 (.list [.tup [.int 0,.int (-1)]]));have hE5:CX K7 σ20 (upd σ20 E5 (.list [.tup [.int 0,.int (-1)]])) E5=some (.list (A1 [((0:Int),(-1:Int))])):=Gn t4 (Am _ _ _);generalize upd σ20 E5 (.list [.tup [.int 0,.int (-1)]])=σ21 at*;generalize CX K7 σ20 σ21=K8 at*;have h8:∀v∈[AV.tup [.ref D,.int (DB.length:Nat),.bool false],.tup [.ref E2,.int (-1),.bool false],.tup [.ref E4,.int 0,.bool false],.tup [.ref E5,.int 0,.bool true]],Pk K8 DB.length v:=fun v hv=>by
     simp only[A7,HY,or_false]at hv;have l2:(ps.map Ay).length≤2:=by rw[AU];exact s1
     rcases hv with rfl|rfl|rfl|rfl
     ·refine⟨D,ps.map Ay,(DB.length:Nat),false,(CB (ps.map Ay)).length,(DB.length:Nat),rfl,k8 _ _ (k7 _ _ (k6 _ _ m2)),!ln l2 rfl,?_⟩;rw[if_neg Gx,V3];exact SQ v2 (show _=some ((DB.length:Nat):Int)from rfl) (!A6 cQ) (!cr z)
     ·refine⟨E2,[],-1,false,0,-1,rfl,k8 _ _ (k7 _ _ hE2),!Be _,?_⟩;rw[if_neg Gx];exact SQ (is:=[]) (js:=[-1,-1,0,0]) (by simp) rfl (!A6 dc) ⋯
     ·refine⟨E4,_,0,false,(CB (ps.map Ay)).length,(DB.length:Nat),rfl,k8 _ _ hE4,by rw[BJ];simp;exact BS pO hr (by assumption) d3,?_⟩;rw[if_neg Gx,V3,V3,Yr];exact SQ v2 (show _=some ((DB.length:Nat):Int)from rfl) (!A6 cQ) (!cr z)
     ·refine⟨E5,[(0,-1)],0,true,1,-1,rfl,hE5,!ld rfl,?_⟩;rw[if_pos rfl];exact SQ (is:=[0]) (js:=[-1]) (by intro i hi;rw[Ap.mp hi];exact A6 pD e9) rfl (!A6 dc) ⋯
    generalize hbl:[AV.tup [.ref D,.int (DB.length:Nat),.bool false],.tup [.ref E2,.int (-1),.bool false],.tup [.ref E4,.int 0,.bool false],.tup [.ref E5,.int 0,.bool true]]=bl at*;have r7:upd σ21 E6 (.list bl) E6=some (.list bl):=Am _ _ _;have y6:An σ21 (upd σ21 E6 (.list bl)):=.new s3;have X22:=p8.ext y6;have k9:=p8.le (σ':=upd σ21 E6 (.list bl));have r1:CX K8 σ21 (upd σ21 E6 (.list bl)) E6=some (.list bl):=Gn s3 r7;have l3:∀v∈bl,Pk (CX K8 σ21 (upd σ21 E6 (.list bl))) DB.length v:=fun v hv=>by
     obtain⟨l0,p4,m0,w0,N0,q5,e1,e2,e3,e4⟩:=h8 v hv;exact⟨l0,p4,m0,w0,N0,q5,e1,k9 _ _ e2,e3,e4⟩
    generalize upd σ21 E6 (.list bl)=σ22 at*;generalize CX K8 σ21 σ22=K9 at*;have v0:=JG k6 (JG k7 (JG k8 k9));have h5:=JG e6 v0;have dv9:=u2.le v0;have hblen:bl.length=4:=by rw[←hbl];rfl
    have g0:put ρ6 "bad" (.ref E6) "bad"=some (.ref E6):=Ar;have bo:∀{y:Str},y≠("bad":Str)→put ρ6 "bad" (.ref E6) y=ρ6 y:=fun h=>AP h;generalize put ρ6 "bad" (.ref E6)=ρ7 at*;rw[←bo ⋯]at a2 a3 a6 a7;clear bo a5 b0 f0 h8;refine AJ (Gs R.handled (FA (AG g0 ⟨E6,bl,rfl,r7,trivial,trivial,bl.length,fun i ρ' σ'=>i≤bl.length∧At σ' f5 h9 K9 Jx Ma Ms∧ρ' "trial"=some (.ref IQ)∧ρ' "nodes"=some (.ref RR)∧ρ' "photo"=some v∧ρ' "heap_now"=some (.ref (Ie .hp)),
     ⟨!Be _,X22,a2,a3,a6,a7⟩,?_⟩)))
    rintro j e5 b4 ⟨hj,b1,b2,b3,b6,b7⟩;refine⟨hj,_,⟨_,b1.get r1,rfl⟩,?_⟩;cases u1:bl[j]? with
    |none=>exact AJ (CD (Ln (q f5 h9 b4 f2 (b1.sub h5) m1)))
    |some u=>
     have x8:=(BY.mp u1).1;refine Zdk (l3 u (DE u1)) fun x0=>?_;refine Ei x0 fun l0 p4 m0 w0 p7=>B0 p7 fun N0 q5 r2=>Bv r2 fun q2 e2 e3 e4=>?_;subst q2;refine FB R.handled (.tup _) rfl (BZ (A2 (BZ (A2 (BZ (A2 (Dm ?_)))))));have n1:put (put (put e5 "some" (.ref l0)) "n" (.int m0)) "is_whole" (.bool w0) "some"=some (.ref l0):=by rw[AP ⋯,AP ⋯];exact Ar
     have n2:put (put (put e5 "some" (.ref l0)) "n" (.int m0)) "is_whole" (.bool w0) "n"=some (.int m0):=by rw[AP ⋯];exact Ar
     have n3:put (put (put e5 "some" (.ref l0)) "n" (.int m0)) "is_whole" (.bool w0) "is_whole"=some (.bool w0):=Ar;have bo:∀{y:Str},y≠("some":Str)→y≠("n":Str)→y≠("is_whole":Str)→put (put (put e5 "some" (.ref l0)) "n" (.int m0)) "is_whole" (.bool w0) y=e5 y:=fun h1 h2 h3=>by rw[AP h3,AP h2,AP h1]
     generalize put (put (put e5 "some" (.ref l0)) "n" (.int m0)) "is_whole" (.bool w0)=ρ9 at*;rw[←bo ⋯ ⋯ ⋯]at b2 b3 b6 b7;clear bo;refine AJ (CP (Lm (HN (QD (Py (il B (ya w) (cy w) (AC.cons (AG b2 (GT (AG n1 (AG n2 (AG n3 fun nL o=>?_))))))))))));have X24:At b4 f5 h9 K9 Jx Ma Ms:=b1;have u3:b4 Lf=none:=nL;have e8:An b4 (upd b4 Lf (.frz o)):=.new u3;have al':LQ (dP.deeper (G0 (PZ w) Lf 557)) (upd b4 Lf (.frz o)) (G0 (PZ w) Lf 557::Fc):=⟨Km al.fr,fun en m=>by
      rcases A7.mp m with rfl|m
      ·exact⟨fun e=>(by cases(show(PZ w).scope.kind=.module from e)),Lf,rfl⟩
      ·exact al.kd en m,fun b m=>by
      rcases A7.mp (show b∈Lf::fl Fc from m)with rfl|m
      ·exact⟨o,Am _ _ _⟩
      ·refine AY (fk b m) fun ob hob=>?_;have:=b1.get (h5 _ _ hob);exact⟨ob,by rw[e8 b (by rw[this];exact Ag _)];exact this⟩⟩
     have n0:=G.nds f5 f2;refine vd B (R.up rfl) al' (b1.P.ext e8) (G.S f5 f2).U (by rw[n0];exact ln z rfl) (T:=⟨?_,?_⟩) (dx:=KJ) (ps:=p4) (by rw[e8 l0 (by rw[b1.get e2];exact Ag _)];exact b1.get e2) e3 (by rw[n0];exact e4) fun σ24 t0=>⟨?_,?_⟩
     ·have:=b1.get (h5 _ _ T.1);rw[e8 IQ (by rw[this];exact Ag _)];exact this
     ·have:=b1.get (h5 _ _ T.2);rw[e8 KJ (by rw[this];exact Ag _),m1];exact this
     ·rw[show(G0 (PZ w) Lf 557).locals=Lf from rfl,t0 Lf (by rw[Am];exact Ag _)];exact Am _ _ _
     ·refine BO ?_;refine Ba Iv ?_;have x3:=b1.ext0 (t0.back u3);refine HN (Xo B (R.up rfl) x3 G f2 (h5 _ _ hN) dv9 m1 b7 b3 b6 fun σ26 X26=>?_);refine Ba rfl ?_;refine NK ?_;refine Ba rfl ?_;exact Ax (Ax ⟨!x8,X26,b2,b3,b6,b7⟩)
theorem s7{σ A c L K H C cells l nodes told By N m t dx Φ}:U7 σ A c L K H C cells l nodes told By N m t dx Φ:=@zF _ gJ _ @ko (((((σ,A),c),(L,K)),((H,C),(cells,l))),(((nodes,told),(By,N)),((m,t),(dx,Φ))))
variable {s s':AN}
theorem yw(w:AD):∀h a,h.get? a=some {cls:=.type "dict",data:=.dict #[]}→Ee w h a (.dictS []):=fun h a e=>⟨[],⟨_,#[],0,e,⟨rfl,rfl,rfl⟩,rfl,fun n m=>by simp at m,.nil,je⟩,.nil⟩
theorem Zds(B:Aj)
  (k:∀D,σ D=none→hb.get? D=none→D≠1→EV A env v1 ρ (upd σ D (.dictS [])) fun x1 a1=>EV A env v2 ρ a1 fun x2 a2=>EV A env v3 ρ a2 fun x3 m=>m D=some (.dictS [])∧Φ (.ref D) (upd m D (.dictS (Av (Av (Av [] k1 x1) k2 x2) k3 x3)))):
  EV A env (.Dict [some (.Constant (.str k1) n1 p1),some (.Constant (.str k2) n2 p2),some (.Constant (.str k3) n3 p3)] [v1,v2,v3] b3) ρ σ Φ:=fun s S=>by
 have g0:=S.g.pushOwn {cls:=.type "dict",data:=.dict #[]} (yw w _ _ (B2 _ rfl));have t0:Aq σ s (upd σ s.heap.objs.size (.dictS [])) {s with heap:=s.heap.push {cls:=.type "dict",data:=.dict #[]}}:=.pushOwn _ _;have S0:St env ρ (upd σ s.heap.objs.size (.dictS [])) (s.heap.push {cls:=.type "dict",data:=.dict #[]}):=S.step (s':={s with heap:=s.heap.push {cls:=.type "dict",data:=.dict #[]}}) g0 t0;have kk:=k s.heap.objs.size S.g.fresh.1 S.g.fresh.2 (iE B S.g);have EE:∀{α:Type}{t:Sem α}{P Q:α→AN→Prop}{E:Value→AN→Prop}{s:AN},AR (Ae pg w) A t P (fun zz zz=>False) s→(∀a s,P a s→Q a s)→AR (Ae pg w) A t Q E s:=fun h k=>AT h (fun a s q=>k a s q) fun zz zz q=>q.elim;refine wpAny_Dict_walk (knd:=strKind pg w) rfl rfl (!(by intro e;injection e)) (!ld rfl) ?_;refine j7 (Tk (EE (kk {s with heap:=s.heap.push {cls:=.type "dict",data:=.dict #[]},toks:=s.toks+1} S0) fun u1 s1 a3=>BG a3 fun x1 a1 r1 g1 t1 a5=>?_));have S1:=St.step (s:={s with heap:=s.heap.push {cls:=.type "dict",data:=.dict #[]},toks:=s.toks+1}) S0 g1 t1;refine j7 (Tk (EE (a5 {s1 with toks:=s1.toks+1} S1) fun u2 s2 a0=>BG a0 fun x2 a2 r2 g2 t2 b0=>?_));have S2:=St.step (s:={s1 with toks:=s1.toks+1}) S1 g2 t2;refine j7 (Tk (EE (b0 {s2 with toks:=s2.toks+1} S2) fun u3 s3 n=>BG n fun x3 m r3 g3 t3 n=>AL n fun hD q=>?_));refine pairTrees_nil_walk ?_;have a8:=(r1.mono (t2.evo.tup g1)).mono (t3.evo.tup g2);have a7:=r2.mono (t3.evo.tup g2);refine AI ((g3.own _ _ hD).2) fun b2 b1 a6=>?_;cases a6;refine⟨[(k1,u1),(k2,u2),(k3,u3)],⟨beq_self_eq_true k1,rfl,beq_self_eq_true k2,rfl,beq_self_eq_true k3,rfl,trivial⟩,b1,fun h' a9 a4=>?_⟩;refine⟨.ref s.heap.objs.size,upd m s.heap.objs.size (.dictS (Av (Av (Av [] k1 x1) k2 x2) k3 x3)),.ref _,g3.set (y:=.dictS (Av (Av (Av [] k1 x1) k2 x2) k3 x3)) hD a4 fun tk=>?_,?_,q⟩
 ·refine⟨_,a9,?_⟩;show Ct h' _ (stored (stored (stored [] k1 u1) k2 u2) k3 u3);exact((Ct.nil.put (a8.mono tk)).put (a7.mono tk)).put (r3.mono tk)
 ·have tt:Aq σ s m s3:=t0.trans ((Aq.toks (s:={s with heap:=s.heap.push {cls:=.type "dict",data:=.dict #[]}}) (s.toks+1)).trans (t1.trans ((Aq.toks (s:=s1) (s1.toks+1)).trans (t2.trans ((Aq.toks (s:=s2) (s2.toks+1)).trans t3)))));exact tt.trans (.set hD a4 rfl rfl)
end
section
variable {σ σ' σ'' τ:AA} {A:AX} {env:Af} {ρ:AW} {c c':HS} {L L':AZ} {K K':AA} {H C hp LV N T N' T':AB} {cells:List Int}
abbrev C9:=List Nd×List (Nat×Nat)
abbrev ZT:=HS→List Nd→List (Nat×Nat)→List C9→Nat→Prop
abbrev dg:AV:=.tup [.str "told",.str "t"]
structure GL(Z:ZT):Prop where
 init:Z hs0 [] [] [] 11
 nds:∀{c ns ts lv k},Z c ns ts lv k→c.nodes=ns∧(∀nd∈ns,Cx nd.1)∧(∀e∈lv,∀nd∈e.1,Cx nd.1)∧lv.length≤20∧c.marks.length=lv.length
 add:∀{c ns ts lv k},Z c ns ts lv (k+1)→OF c∧∀nd c',Cx nd.1→nd.2.length≤2→(∀j∈nd.2,j<ns.length)→Si c c' nd→Z c' (Fa ns nd) ts lv k
 settle:∀{c ns ts lv k},Z c ns ts lv k→∃I μ,Oo I μ∧I c∧∀c',I c'→c'.waiting=[]→Z c' ns ts lv k
 push:∀{c ns ts lv k},Z c ns ts lv (k+1)→c.changes.length≤1000∧c.waiting.length≤1000∧Z (E0 c) ns ts (lv++[(ns,ts)]) k
 pop:∀{c ns ts lv e k},Z c ns ts (lv++[e]) k→∃many J ms ws m,PC many J∧c.marks=ms++[(many,ws)]∧c.marks.length≤1000∧J m {c with marks:=ms,backs:=c.backs+1}∧∀c',J 0 c'→Z (Ec c' ws) e.1 e.2 lv k
 tell:∀{c ns ts lv k}{a b:Nat},Z c ns ts lv (k+1)→a<ns.length→b<ns.length→D0 c∧Z (c.join a b dg) ns (ts++[(a,b)]) lv k
 asks:∀{c ns ts lv k},Z c ns ts lv k→0<ns.length→∃By ph,Ff By ns ts ph∧By c∧∀c',By c'→Z c' ns ts lv k
 less:∀{c ns ts lv k},Z c ns ts lv (k+1)→Z c ns ts lv k
 fin:∀{c ns ts k},Z c ns ts [] k→c.waiting=[]→0<ns.length→Bz c.uab∧c.uab.length=ns.length∧∀i j,i<ns.length→j<ns.length→(c.find i=c.find j↔CC ns ts i j)
def MQ(K:AA)(v:AV)(e:C9):Prop:=∃N T,v=.tup [.ref N,.ref T]∧K N=some (.list (CN e.1))∧K T=some (.list (A1 (e.2.map Ay)))
def Fe(K:AA):List AV→List C9→Prop
 |[],[]=>True
 |v::vs,e::es=>MQ K v e∧Fe K vs es
 |_,_=>False
theorem MQ.le(k:∀a x,K a=some x→K' a=some x)(h:MQ K v e):MQ K' v e:=by refine FN h fun N T a b d=>?_;exact⟨N,T,a,k _ _ b,k _ _ d⟩
theorem Fe.le(k:∀a x,K a=some x→K' a=some x):∀{vs:List AV}{es:List C9},Fe K vs es→Fe K' vs es
 |[],[],_=>trivial
 |v::vs,e::es,h=>⟨h.1.le k,h.2.le k⟩
 |[],_::_,h=>h.elim
 |_::_,[],h=>h.elim
theorem Fe.snoc:∀{vs:List AV}{es:List C9}{v:AV}{e:C9},Fe K vs es→MQ K v e→Fe K (vs++[v]) (es++[e])
 |[],[],_,_,_,h=>⟨h,trivial⟩
 |v::vs,e::es,_,_,h,h'=>⟨h.1,h.2.snoc h'⟩
 |[],_::_,_,_,h,_=>h.elim
 |_::_,[],_,_,h,_=>h.elim
theorem Fe.len:∀{vs:List AV}{es:List C9},Fe K vs es→vs.length=es.length
 |[],[],_=>rfl
 |v::vs,e::es,h=>congrArg (· +1) h.2.len
 |[],_::_,h=>h.elim
 |_::_,[],h=>h.elim
theorem Fe.last:∀{es:List C9},Fe K vs es→es≠[]→∃a0 v m e,vs=a0++[v]∧es=m++[e]∧Fe K a0 m∧MQ K v e:=by
 induction vs with
 |nil=>
  intro es h n;cases es with
  |nil=>exact absurd rfl n
  |cons e es=>exact h.elim
 |cons v vs ih=>
  intro es h n;cases es with
  |nil=>exact h.elim
  |cons e es=>
   by_cases q:es=[]
   ·subst q;cases vs with
    |nil=>exact⟨[],v,[],e,rfl,rfl,trivial,h.1⟩
    |cons v' vs=>exact h.2.elim
   ·exact Ei (ih h.2 q) fun a0 u m f a1=>Bv a1 fun e1 e2 e3 e4=>⟨v::a0,u,e::m,f,by rw[e1];rfl,by rw[e2];rfl,⟨h.1,e3⟩,e4⟩
structure WS(Z:ZT)(σ:AA)(c:HS)(L:AZ)(K:AA)(H C:AB)(cells:List Int)(hp LV N T:AB)(lvA:List AV)(ns:List Nd)(ts:List (Nat×Nat))(lv:List C9)(k:Nat):Prop where
 X:At σ c L (upd K LV (.list lvA)) H C cells
 kn:K LV=none
 cne:C≠LV
 root:L .hp=hp
 z:Z c ns ts lv k
 hN:K N=some (.list (CN ns))
 hT:K T=some (.list (A1 (ts.map Ay)))
 lvs:Fe K lvA lv
variable {Z:ZT} {lvA:List AV} {ns ns':List Nd} {ts ts':List (Nat×Nat)} {lv lv':List C9} {k k':Nat}
theorem wF(n:K LV=none):∀a x,K a=some x→upd K LV (.list lvA) a=some x:=fun a x e=>by
 rw[Au _ _ (by rintro rfl;exact As ((n.symm.trans e)))];exact e
theorem WS.up(W:WS Z σ c L K H C cells hp LV N T lvA ns ts lv k):∀a x,K a=some x→upd K LV (.list lvA) a=some x:=wF W.kn
theorem WS.get(W:WS Z σ c L K H C cells hp LV N T lvA ns ts lv k)(e:K a=some x):σ a=some x:=W.X.get (W.up _ _ e)
theorem WS.lv_at(W:WS Z σ c L K H C cells hp LV N T lvA ns ts lv k):σ LV=some (.list lvA):=W.X.get (Am _ _ _)
theorem WS.go(W:WS Z σ c L K H C cells hp LV N T lvA ns ts lv k)(m:At σ' c' L' (upd K LV (.list lvA)) H C cells)(r:L' .hp=hp)(z:Z c' ns ts lv k'):WS Z σ' c' L' K H C cells hp LV N T lvA ns ts lv k':=⟨m,W.kn,W.cne,r,z,W.hN,W.hT,W.lvs⟩
def IZ(K:AA)(LV:AB):AA:=fun a=>if a=LV then none else K a
theorem uz(K:AA)(LV:AB):∀a x,IZ K LV a=some x→K a=some x:=fun a x e=>by unfold IZ at e;split at e;exact As e;exact e
theorem WS.more(W:WS Z σ c L K H C cells hp LV N T lvA ns ts lv k)(X':At σ' c' L' m H C cells)(le:∀a x,upd K LV (.list lvA) a=some x→m a=some x)(r:L' .hp=hp)(z:Z c' ns' ts' lv k')
  (hN:∃x,m N'=some x∧x=.list (CN ns')∧N'≠LV)(hT:∃x,m T'=some x∧x=.list (A1 (ts'.map Ay))∧T'≠LV):
  WS Z σ' c' L' (IZ m LV) H C cells hp LV N' T' lvA ns' ts' lv k'∧∀a x,K a=some x→IZ m LV a=some x:=by
 have n:∀a x,K a=some x→IZ m LV a=some x:=fun a x e=>by
  have ne:a≠LV:=by rintro rfl;exact As ((W.kn.symm.trans e))
  unfold IZ;rw[if_neg ne];exact le _ _ (W.up _ _ e)
 refine B3 hN fun x1 e1 a1 n1=>?_;subst a1;refine B3 hT fun x2 e2 a0 n2=>?_;subst a0;refine⟨⟨X'.sub fun a x e=>?_,if_pos rfl,W.cne,r,z,by unfold IZ;rw[if_neg n1];exact e1,by unfold IZ;rw[if_neg n2];exact e2,W.lvs.le n⟩,n⟩;by_cases h:a=LV
 ·subst h;rw[Am]at e;exact le _ _ (by rw[Am];exact e)
 ·rw[Au _ _ h]at e;exact uz _ _ _ _ e
theorem WS.ne(W:WS Z σ c L K H C cells hp LV N T lvA ns ts lv k){a:AB}{x:AO}(e:K a=some x):a≠LV:=by rintro rfl;exact As ((W.kn.symm.trans e))
theorem WS.setL(W:WS Z σ c L K H C cells hp LV N T lvA ns ts lv k){lvB:List AV}:At (upd σ LV (.list lvB)) c L (upd K LV (.list lvB)) H C cells:=by
 refine BN (W.X.K LV _ (Am _ _ _)) fun h1 n h3=>?_;refine B0 W.X.hand fun p q h=>?_;refine⟨W.X.P.other fun a f=>Au _ _ (by rintro rfl;exact n f),fun a x e=>?_,⟨p,q,⟨by rw[Au _ _ (Ne.symm h3)];exact h.h,by rw[Au _ _ W.cne];exact h.c,h.ok,h.sz,h.q0,h.q1⟩⟩,W.X.nH,W.X.nC⟩;by_cases m:a=LV
 ·subst m;rw[Am]at e;cases e;exact⟨Am _ _ _,n,h3⟩
 ·rw[Au _ _ m]at e ⊢;exact W.X.K a x (by rw[Au _ _ m];exact e)
end
section
variable {σ σ' σ'' τ:AA} {A:AX} {env:Af} {ρ:AW} {c c':HS} {L L':AZ} {K K':AA} {H C hp LV N T E Lf:AB} {cells:List Int} {Z:ZT} {lvA:List AV} {ns el:List Nd} {ts:List (Nat×Nat)} {lv:List C9} {k:Nat}
def Uy(p:Nat×Nat):Dat:=.tuple [.int (p.1:Nat),.int (p.2:Nat)]
theorem Zd1(ps:List (Nat×Nat)):A4 σ (A1 (ps.map Ay)) (ps.map Uy):=by
 induction ps with
 |nil=>exact A4.nil
 |cons p ps m=>exact A4.cons (DQ.tup (A4.cons (DQ.int _) (A4.cons (DQ.int _) A4.nil))) m
theorem Zec(p:Nat×Nat):BE 1 (Uy p):=(BE.seq fun d hd=>by
 simp only[A7,HY,or_false]at hd;rcases hd with rfl|rfl<;>exact .int _ _).2
def Sx(e:C9):Dat:=.tuple [.list (e.1.map Ex),.list (e.2.map Uy)]
theorem BE.nodes(o:∀nd∈ns,Cx nd.1):BE 3 (.list (ns.map Ex)):=(BE.seq fun d hd=>by refine AI (BD.mp hd) fun nd n m=>?_;subst m;exact BE.node (o nd n)).1
theorem Zdt(o:∀nd∈e.1,Cx nd.1):BE 4 (Sx e):=(BE.seq fun d hd=>by
 simp only[A7,HY,or_false]at hd;rcases hd with rfl|rfl
 ·exact .nodes o
 ·exact(BE.seq fun d hd=>by refine AI (BD.mp hd) fun p n m=>?_;subst m;exact(Zec p).mono (!ld rfl)).1).2
theorem iJ(k:∀a x,K a=some x→σ a=some x):∀{lvA:List AV}{lv:List C9},Fe K lvA lv→A4 σ lvA (lv.map Sx)
 |[],[],_=>A4.nil
 |v::vs,e::es,h=>by
  refine FN h.1 fun N T m h1 n=>?_;subst m;exact A4.cons (DQ.tup (A4.cons (DQ.list (k _ _ h1) (A4.nodes _)) (A4.cons (DQ.list (k _ _ n) (Zd1 _)) A4.nil))) (iJ k h.2)
 |[],_::_,h=>h.elim
 |_::_,[],h=>h.elim
theorem iK(R:Ah A 4)(W:WS Z σ c L K H C cells hp LV N T lvA ns ts lv k)(M:GL Z)(hx:ρ "levels"=some (.ref LV))(q:∀σ',WS Z σ' c L K H C cells hp LV N T lvA ns ts lv k→Φ (decide (lv≠[])) σ')
  (h1:autoParam (Ck (env.kindOf "levels")=true) aR)(h3:autoParam (env.scope.kind=.function) aR):TR A env (.Compare (.Name "levels" p1) [.NotEq] [.List [] p2] p3) ρ σ Φ:=by
 refine Bv (M.nds W.z) fun zz zz o zz=>?_;refine Bj (AG hx (Da (AC.nil ⟨!Be _,fun D nD nb=>?_⟩)) h1 h3);have x1:An σ (upd σ D (.list [])):=.new nD;have hD:upd σ D (.list []) D=some (.list []):=Am _ _ _;have W1:=W.go (W.X.ext0 x1) W.root W.z;generalize upd σ D (.list [])=σ1 at*;have d1:DQ σ1 (.ref LV) (.list (lv.map Sx)):=DQ.list W1.lv_at (iJ (fun a x e=>W1.get e) W.lvs);have ok:BE 5 (.list (lv.map Sx)):=(BE.seq fun d hd=>by refine AI (BD.mp hd) fun e he a0=>?_;subst a0;exact Zdt (o e he)).1;refine Xs R d1 (DQ.list hD A4.nil) ok (BE.seq (n:=1) (ds:=[]) (by simp)).1 (!ld rfl) (!ld rfl) (fun e=>BO ?_) fun e=>BO ?_
 ·have:lv=[]:=by simpa using e
  have m:=q σ1 W1;rw[decide_eq_false (by simpa using this)]at m;exact m
 ·have:lv≠[]:=fun h=>e (by rw[h];rfl);have m:=q σ1 W1;rw[decide_eq_true this]at m;exact m
abbrev EF(w:AD)(Lf:AB):Af:=G0 (J9 w) Lf 567
theorem WS.popped(W:WS Z σ c L K H C cells hp LV N T (lvA++[.tup [.ref N',.ref T']]) ns ts (lv++[e]) k)(h1:K N'=some (.list (CN e.1)))(m:K T'=some (.list (A1 (e.2.map Ay))))(n:Fe K lvA lv)
  (X':At σ' c' L' (upd K LV (.list lvA)) H C cells)(r:L' .hp=hp)(z:Z c' e.1 e.2 lv k'):WS Z σ' c' L' K H C cells hp LV N' T' lvA e.1 e.2 lv k':=⟨X',W.kn,W.cne,r,z,h1,m,n⟩
end
section
variable {σ σ' σ'' τ:AA} {A:AX} {ρ:AW} {c c':HS} {L L':AZ} {K K':AA} {H C hp LV N T E Lf:AB} {cells:List Int} {Z:ZT} {lvA:List AV} {ns el:List Nd} {ts:List (Nat×Nat)} {lv:List C9} {k:Nat}
theorem WS.drop(B:Aj)(W:WS Z σ c L K H C cells hp LV N T lvA ns ts lv k)(M:GL Z)(a6:lv≠[]):∃n N' T' lv' e,lvA=n++[.tup [.ref N',.ref T']]∧lv=lv'++[e]∧lvA.length≤20∧
  ∀{env:Af}{Φ:AV→AA→Prop},Ah A 7→(∀σ' c' L',WS Z σ' c' L' K H C cells hp LV N' T' n e.1 e.2 lv' k→Φ .none σ')→AF A (.ref 429) [.ref hp] (upd σ LV (.list n)) Φ:=by
 refine Ei (W.lvs.last a6) fun n v lv' e a3=>Bv a3 fun a1 a2 h3 a4=>FN a4 fun N' T' a0 h1 h2=>?_;subst a1;subst a2;subst a0;refine LG (M.nds W.z) fun zz zz zz hz zz=>?_;refine⟨n,N',T',lv',e,rfl,rfl,by rw[W.lvs.len];exact hz,fun{env Φ} R q=>?_⟩;refine KT (M.pop W.z) fun many J ms ws m Un e1 z1 hJ hk=>?_;have X1:=W.setL (lvB:=n);have:=UX B R X1.P Un e1 z1 hJ (Φ:=Φ) fun c5 L5 a5 a7 P5 F5=>q a5 _ L5 (W.popped h1 h2 h3 (X1.fm P5 F5) (F5.root.trans W.root) (hk c5 a7));rw[W.root]at this;exact this
def XG(σ:AA)(A:AX)(ρ:AW)(c:HS)(L:AZ)(K:AA)(H:AB)(C:AB)(hp:AB)(LV:AB)(N:AB)(T:AB)(E:AB)(Lf:AB)(cells:List Int)(Z:ZT)(lvA:List AV)(ns:List Nd)(el:List Nd)(ts:List (Nat×Nat))(lv:List C9)(k:Nat)(Φ:AV→AA→Prop):Prop:=∀(B:Aj)(R:Ah A 10)(W:WS Z σ c L K H C cells hp LV N T lvA ns ts lv k)(M:GL Z)(r1:ρ "heap_now"=some (.ref hp))(r2:ρ "nodes"=some (.ref N))(r3:ρ "told"=some (.ref T))(r4:ρ "levels"=some (.ref LV))(r5:ρ "elder"=some (.ref E))(hE:K E=some (.list (CN el)))(p1:el<+:ns)(p2:∀e∈lv,el<+:e.1)(m:0<el.length)(n:∀nd∈el,Cx nd.1)(q:∀σ',Φ (.bool true) σ'),EX A (EF w Lf) ((KF (J9 w)).drop 7) ρ σ (backs Φ)
def fP:((((AA×AX)×AW)×((HS×AZ)×AA))×(((AB×AB)×AB)×((AB×AB)×AB)))×((((AB×AB)×List Int)×((ZT×List AV)×List Nd))×(((List Nd×(List (Nat×Nat)))×List C9)×(Nat×(AV→AA→Prop))))→Prop:=fun t=>XG t.1.1.1.1.1 t.1.1.1.1.2 t.1.1.1.2 t.1.1.2.1.1 t.1.1.2.1.2 t.1.1.2.2 t.1.2.1.1.1 t.1.2.1.1.2 t.1.2.1.2 t.1.2.2.1.1 t.1.2.2.1.2 t.1.2.2.2 t.2.1.1.1.1 t.2.1.1.1.2 t.2.1.1.2 t.2.1.2.1.1 t.2.1.2.1.2 t.2.1.2.2 t.2.2.1.1.1 t.2.2.1.1.2 t.2.2.1.2 t.2.2.2.1 t.2.2.2.2
def Df:=zE fP ((((((fun _=>none),{}),(fun _=>none)),((De,(fun _=>0)),(fun _=>none))),(((0,0),0),((0,0),0))),((((0,0),[]),(((fun _ _ _ _ _=>True),[]),[])),((([],[]),[]),(0,(fun _ _=>True)))))
def wI:=Df.1.1.1.1.1
def cD:=Df.1.1.1.1.2
def vf:=Df.1.1.1.2
def Pi:=Df.1.1.2.1.1
def Kz:=Df.1.1.2.1.2
def bE:=Df.1.1.2.2
def cb:=Df.1.2.1.1.1
def VI:=Df.1.2.1.1.2
def Uu:=Df.1.2.1.2
def RY:=Df.1.2.2.1.1
def MV:=Df.1.2.2.1.2
def MP:=Df.1.2.2.2
def Wy:=Df.2.1.1.1.1
def aa:=Df.2.1.1.1.2
def gY:=Df.2.1.1.2
def dF:=Df.2.1.2.1.1
def PW:=Df.2.1.2.1.2
def Hh:=Df.2.1.2.2
def JB:=Df.2.2.1.1.1
def Ok:=Df.2.2.1.1.2
def JN:=Df.2.2.1.2
def gT:=Df.2.2.2.1
def kX:=Df.2.2.2.2
theorem pw:XG wI cD vf Pi Kz bE cb VI Uu RY MV MP Wy aa gY dF PW Hh JB Ok JN gT kX:=fun B R W M r1 r2 r3 r4 r5 hE p1 p2 e5 c4 q=>by
 refine AJ (Ll (fun m ρ' σ'=>∃Pi Kz MV MP PW Hh Ok JN,m=JN.length∧WS dF σ' Pi Kz bE cb VI gY Uu RY MV MP PW Hh Ok JN gT∧ρ' "heap_now"=some (.ref Uu)∧ρ' "nodes"=some (.ref MV)∧ρ' "told"=some (.ref MP)∧ρ' "levels"=some (.ref RY)∧ρ' "elder"=some (.ref Wy)∧JB<+:Hh∧∀e∈JN,JB<+:e.1)
  JN.length ⟨Pi,Kz,MV,MP,PW,Hh,Ok,JN,rfl,W,r1,r2,r3,r4,r5,p1,p2⟩ ?_)
 clear W r1 r2 r3 r4 r5 p1 p2;rintro m b7 f0 ⟨Pi,Kz,MV,MP,PW,Hh,Ok,JN,rfl,W,r1,r2,r3,r4,r5,p1,p2⟩;refine iK (R.lo rfl) W M r4 fun f1 W2=>?_;by_cases hl:JN=[]
 ·subst hl;refine Ba (decide_eq_false (!nofun)) ?_;refine FN (M.settle W2.z) fun I μ Go hI hz=>?_;have a9:b7 "heap_now"=some (.ref (Kz .hp)):=by rw[W2.root];exact r1
  refine AJ (Bg (Bu B a9 W2.X.P.iH () (R4 w) (Ot w) (AC.nil (Rc B (R.lo rfl) Go W2.X.P hI fun c3 L3 e3 d2 c5 P3 F3=>?_))));have W3:=W2.go (W2.X.fm P3 F3) (F3.root.trans W2.root) (hz c3 d2 c5);refine BN (M.nds W3.z) fun a1 a2 zz=>?_;have a8:0<Hh.length:=OD e5 p1.length_le;refine BN (M.fin W3.z c5 a8) fun U3 l3 hf=>?_;refine FN (M.asks W3.z a8) fun By ph G g zz=>?_;have a3:=G.z;have a7:b7 "heap_now"=some (.ref (L3 .hp)):=by rw[W3.root];exact r1
  have a0:c3.nodes.length=Hh.length:=by rw[a1]
  refine AJ (CD (iM (Nf (Zd9 R.handled (Le (Fl B (Jf w) JS ⟨rfl,Ab (Bu B a7 W3.X.P.iH () (Oy w) (Md w) (AC.nil (PS B (R.lo rfl) W3.X.P (!ln (AK (Ac a0) a3) rfl)
   ⟨c3.nodes.length,rfl,!ln (AK (CG (Ac a0)) (CG a3)) rfl,⟨_,_,rfl⟩,B6 c3.nodes.length,fun(i:Nat)=>.int (0+i),fun i=>.int (c3.find i:Nat),fun zz zz=>Xk,by rw[MF];exact ln (AK (Ac a0) a3) rfl,fun i hi VI σ' x=>?_,fun D1 f3 x4 d4=>?_⟩)))⟩ ⋯ () () () ())) ()))))
  ·have hi:=MH.mp hi;rw[show(fun(i:Nat)=>AV.int (0+i)) i=.int (i:Nat) by show AV.int (0+(i:Int))=_;rw[Jn]];exact Bu B (by rw[AP ⋯,FY ⋯];exact a7) (W3.X.P.ext x).iH () (HD w) (Ha w) (Ab (AG Ar (HC B (R.lo rfl) (W3.X.P.ext x) U3 (!AK (AK hi (Ac a0)) (Ac l3.symm)) ⟨.refl _,DQ.int _⟩)))
  ·have W4:=W3.go (W3.X.ext0 x4) W3.root W3.z;refine Hy B (Z1 w) (Ua w) (BX (AG r2 (AG r3 ?_)));refine bc B (R.lo rfl) (W4.get W4.hN) (W4.get W4.hT) G.dup (fun nd b0=>(G.kid g b0).2) (fun nd b0=>by have:=(G.kid g b0).1;exact ln this rfl) G.tin (!a3) (by have:=G.tz;exact ln this rfl) fun D5 hs a4 x5 e9 d3 Hs=>?_;have W5:=W4.go (W4.X.ext0 x5) W4.root W4.z;have d5:DQ a4 (.ref D1) (.list ((B6 c3.nodes.length).map fun i=>.int (c3.find i:Nat))):=d4.le fun a x e=>by
    have:=Vm e;rw[x5 a (by rw[this];exact Ag _)];exact this
   have e7:((B6 c3.nodes.length).map fun i=>Dat.int (c3.find i:Nat))=hs.map fun(n:Nat)=>.int n:=by
    refine UM fun i=>?_;rw[CK,CK];have a6:=Hs.len;by_cases hi:i<Hh.length
    ·rw[jJ (!AK hi (Ac a0.symm)),PT (hs:=hs) (!AK hi (Ac a6.symm))];have e8:=Hs.le i;have c9:Aa hs i<Hh.length:=by exact AK (CG e8) hi
     have b1:=(hf (Aa hs i) i c9 hi).mpr ((Hs.cc c9 hi).mp (Hs.idem i));have b2:c3.find (Aa hs i)≤Aa hs i:=Jy c3.uab _;have c8:c3.find i<Hh.length:=by rw[←l3];exact iQ U3 (!AK hi (Ac l3.symm))
     have b3:c3.find (c3.find i)=c3.find i:=HA (NQ U3 (!AK hi (Ac l3.symm)));have b4:=(Hs.cc c8 hi).mpr ((hf _ _ c8 hi).mp b3);have b5:=Hs.le (c3.find i);have:c3.find i=Aa hs i:=by exact Ep (AK (Ac b1.symm) b2) (AK (Ac b4.symm) b5)
     show some (Dat.int (c3.find i:Nat))=some (Dat.int (Aa hs i:Nat));rw[this]
    ·rw[Lz (by rw[MF];exact AK (Ac a0) (EU hi)),Lz (!AK (Ac a6) (EU hi))];rfl
   have dh:DQ a4 (.ref D5) (Hb hs):=DQ.list d3 (A4.nats _);rw[e7]at d5;refine ie (R.lo rfl) d5 dh (BE.nats 5 hs) (BE.nats 5 hs) (!ld rfl) (!ld rfl) (fun zz=>⟨true,rfl,?_⟩) fun ne=>absurd rfl ne;refine CQ rfl ?_;have b6:=W5.get hE;have d1:=M.nds W5.z;have d6:=p1.length_le;refine Nf (TS (AG r2 (Bo B (Cb w) Ca (Ab (AG r5 (Cj b6 (by rw[AU];exact ln (AK d6 a3) rfl) ⟨((CN JB).length:Nat),rfl,⟨_,_,.list (W5.get W5.hN)⟩,Ji.list (W5.get W5.hN) (by rw[AU];exact ln a3 rfl) (ys:=CN JB) (.inl ⟨_,rfl,rfl,?_⟩) fun D6 e0 f2=>AG r5 ?_⟩))))))
   ·refine AY p1 fun r c6=>?_;subst c6;show _=List.take _ ((JB++r).map _);rw[Cw,UO];rfl
   ·have x6:An a4 (upd a4 D6 (.list (CN JB))):=.new e0;have e4:=(x6 Wy (by rw[b6];exact Ag _)).trans b6;exact ie (R.lo rfl) (DQ.list (Am _ _ _) (A4.nodes JB)) (DQ.list e4 (A4.nodes JB)) (BE.nodes c4) (BE.nodes c4) (!ld rfl) (!ld rfl) (fun zz=>q _) fun ne=>absurd rfl ne
 ·refine CQ (decide_eq_true hl) ?_;refine Ei (W2.drop (A:=cD) B M hl) fun a5 N' T' lv' c1=>Ii c1 fun e e1 e2 hz c2=>?_;subst e1 e2;have hL:=W2.lv_at;refine AJ (BR (Cd (l:=RY) FW Fw (AG r4 ⟨rfl,hL,AC.nil (FS hL (by rw[BJ]at hz;exact Al Y1 hz) ?_)⟩)));refine FB R.handled (.tup _) rfl (BZ (A2 (BZ (A2 (Dm ?_)))));have X3:=W2.setL (lvB:=a5);have a9:put (put b7 "nodes" (.ref N')) "told" (.ref T') "heap_now"=some (.ref (Kz .hp)):=by rw[AP ⋯,AP ⋯,W2.root];exact r1
  refine AJ (Bg (Bu B a9 X3.P.iH () (Rz w) (PP w) (AC.nil ?_)));rw[W2.root];refine c2 (env:=EF w aa) (R.lo rfl) fun e3 c3 L3 W3=>Ax ?_;refine⟨lv'.length,by rw[BJ];exact Nv _,c3,L3,N',T',a5,e.1,e.2,lv',rfl,W3,?_,?_,Ar,?_,?_,p2 e (by simp),fun e' e6=>p2 e' (by simp[e6])⟩
  ·rw[AP ⋯,AP ⋯];exact r1
  ·rw[AP ⋯];exact Ar
  ·rw[AP ⋯,AP ⋯];exact r4
  ·rw[AP ⋯,AP ⋯];exact r5
theorem uk{σ A ρ c L K H C hp LV N T E Lf cells Z lvA ns el ts lv k Φ}:XG σ A ρ c L K H C hp LV N T E Lf cells Z lvA ns el ts lv k Φ:=@zF _ fP _ @pw (((((σ,A),ρ),((c,L),K)),(((H,C),hp),((LV,N),T))),((((E,Lf),cells),((Z,lvA),ns)),(((el,ts),lv),(k,Φ))))
variable {t dx:AB}
theorem At.frame{o:C6}(X:At σ c L K H C cells)(n:σ Lf=none):At (upd σ Lf (.frz o)) c L (upd K Lf (.frz o)) H C cells:=by
 have x:An σ (upd σ Lf (.frz o)):=.new n;refine(X.ext x).sub fun a y e=>?_;by_cases h:a=Lf
 ·subst h;rw[Am]at e;cases e;exact Gn n (Am _ _ _)
 ·rw[Au _ _ h]at e;exact X.le _ _ e
theorem At.unframe(X:At σ c L (upd K Lf (.frz o)) H C cells)(n:K Lf=none):At (Ce σ Lf) c L K H C cells:=by
 refine BN (X.K Lf _ (Am _ _ _)) fun h1 h2 h3=>?_;refine B0 X.hand fun p q h=>?_;have m:C≠Lf:=by rintro rfl;have:=h.c;exact(nomatch (Ao ((h1.symm.trans this))))
 refine⟨X.P.other fun a f=>Gl (by rintro rfl;exact h2 f),fun a x e=>?_,⟨p,q,⟨by rw[Gl (Ne.symm h3)];exact h.h,by rw[Gl m];exact h.c,h.ok,h.sz,h.q0,h.q1⟩⟩,X.nH,X.nC⟩;have ne:a≠Lf:=by rintro rfl;exact As ((n.symm.trans e))
 rw[Gl ne];exact X.K a x (by rw[Au _ _ ne];exact e)
def Od(w:AD):List DC:=match((KF (J9 w))[6]? :Option DC)with
 |some (Stmt.For _ _ b _ _)=>b
 |_=>[]
theorem pv(w:AD):Co (KK w) Bk "_law_asked_right"=some (some (.ref 557)):=∅
theorem PM(B:Aj)(R:Ah A 15)(fr:A.frames=some [EF w Lf])(W:WS Z σ c L K H C cells hp LV N T lvA ns ts lv k)(M:GL Z)(n:Cu K t dx hp)(a7:0<ns.length)
  (r1:ρ "heap_now"=some (.ref hp))(r2:ρ "nodes"=some (.ref N))(r3:ρ "told"=some (.ref T))(r4:ρ "levels"=some (.ref LV))(r6:ρ "trial"=some (.ref t))(r7:ρ "hand"=some (.ref H))
  (q:∀σ' c' L',WS Z σ' c' L' K H C cells hp LV N T lvA ns ts lv k→Φ .next ρ σ'):EX A (EF w Lf) ((Od w).drop 2) ρ σ Φ:=by
 refine LG (M.nds W.z) fun a1 a2 a3 a4 a5=>?_;have a6:ρ "heap_now"=some (.ref (L .hp)):=by rw[W.root];exact r1
 have hl:=W.lvs.len;refine AJ (CP (Lm (HN (Bj (Bu B a6 W.X.P.iH () (de w) (V0 w) (AC.nil (bw B (R.lo rfl) W.X.P (!ln (AK (Ac a5) a4) rfl) (Bo B (Cb w) Ca (Ab (AG r4 (Cj W.lv_at (!ln (AK (Ac hl) a4) rfl) (NO (BO ?_)))))))))))));rw[decide_eq_true (by rw[hl,a5])];refine Ba Iv ?_;refine FN (M.asks W.z a7) fun By ph G g gz=>?_;refine HN (QD (Py (il B (pv w) (fA w) (AC.cons (AG r7 (GT (AG r6 (AG r2 (AG r3 fun nL o=>?_)))))))));have a0:σ Lf=none:=nL;have X1:=W.X.frame (o:=o) a0;have kl:upd K LV (.list lvA) Lf=none:=by
  cases z:upd K LV (.list lvA) Lf with
  |none=>rfl
  |some x=>have:=W.X.get z;exact As ((a0.symm.trans this))
 have kk:∀a x,K a=some x→upd (upd K LV (.list lvA)) Lf (.frz o) a=some x:=fun a x e=>by
  have h1:=W.up _ _ e;rw[Au _ _ (by rintro rfl;exact As ((kl.symm.trans h1)))];exact h1
 have al:LQ A (upd σ Lf (.frz o)) [EF w Lf]:=⟨fr,fun en m=>by
  rw[Ap.mp m];exact⟨fun e=>(by cases(show(J9 w).scope.kind=.module from e)),Lf,rfl⟩,fun b m=>by
  rw[Ap.mp (show b∈[Lf]from m)];exact⟨o,Am _ _ _⟩⟩
 refine s7 B (R.lo rfl) al X1 G g (kk _ _ W.hN) (kk _ _ W.hT) (dx:=dx) ⟨kk _ _ n.1,by rw[W.root];exact kk _ _ n.2⟩ (fun b m=>⟨o,by rw[Ap.mp (show b∈[Lf]from m)];exact Am _ _ _⟩) fun c2 L2 a8 g2 X2 e2=>⟨X2.get (Am _ _ _),BO ?_⟩;refine Ba Iv ?_;refine NK ?_;refine Ba rfl ?_;exact Ax (Ax (q _ c2 L2 (W.go (X2.unframe kl) (e2.trans W.root) (gz c2 g2))))
variable {ρ':AW}
structure RF(ρ:AW)(hp N T LV E t H:AB):Prop where
 r1:ρ "heap_now"=some (.ref hp)
 r2:ρ "nodes"=some (.ref N)
 r3:ρ "told"=some (.ref T)
 r4:ρ "levels"=some (.ref LV)
 r5:ρ "elder"=some (.ref E)
 r6:ρ "trial"=some (.ref t)
 r7:ρ "hand"=some (.ref H)
theorem RF.put(R:RF ρ hp N T LV E t H)(h:y="way"∨y="lap"∨y="node"):RF (put ρ y v) hp N T LV E t H:=by
 rcases h with rfl|rfl|rfl<;>exact⟨by rw[AP ⋯];exact R.r1,by rw[AP ⋯];exact R.r2,by rw[AP ⋯];exact R.r3,by rw[AP ⋯];exact R.r4,by rw[AP ⋯];exact R.r5,by rw[AP ⋯];exact R.r6,by rw[AP ⋯];exact R.r7⟩
theorem RF.nodes{N':AB}(R:RF ρ hp N T LV E t H):RF (Internal.put ρ "nodes" (.ref N')) hp N' T LV E t H:=
 ⟨by rw[AP ⋯];exact R.r1,Ar,by rw[AP ⋯];exact R.r3,by rw[AP ⋯];exact R.r4,by rw[AP ⋯];exact R.r5,by rw[AP ⋯];exact R.r6,by rw[AP ⋯];exact R.r7⟩
theorem RF.told{T':AB}(R:RF ρ hp N T LV E t H):RF (Internal.put ρ "told" (.ref T')) hp N T' LV E t H:=
 ⟨by rw[AP ⋯];exact R.r1,by rw[AP ⋯];exact R.r2,Ar,by rw[AP ⋯];exact R.r4,by rw[AP ⋯];exact R.r5,by rw[AP ⋯];exact R.r6,by rw[AP ⋯];exact R.r7⟩
theorem Sy(K:AA):∀a x,K a=some x→K a=some x:=fun m m e=>e
theorem Qp(ns:List Nd)(nd:Nd):ns<+:Fa ns nd:=by
 unfold Fa;split
 ·exact List.prefix_refl _
 ·exact List.prefix_append _ _
set_option maxHeartbeats 1000000 in
def Vp(σ:AA)(A:AX)(ρ:AW)(c:HS)(L:AZ)(K:AA)(H:AB)(C:AB)(hp:AB)(LV:AB)(N:AB)(T:AB)(E:AB)(Lf:AB)(t:AB)(dx:AB)(cells:List Int)(Z:ZT)(ns:List Nd)(el:List Nd)(ts:List (Nat×Nat))(k:Nat)(r:Nat)(Φ:CL→AW→AA→Prop):Prop:=∀{lvA:List AV}{lv:List C9}(B:Aj)(R:Ah A 15)(fr:A.frames=some [EF w Lf])(W:WS Z σ c L K H C cells hp LV N T lvA ns ts lv (k+1))(M:GL Z)(a0:Cu K t dx hp)(a1:0<ns.length)(n:0<el.length)(F:RF ρ hp N T LV E t H)(hw:ρ "way"=some (.int (r:Nat)))(p1:el<+:ns)(p2:∀e∈lv,el<+:e.1)(q:∀σ' c' L' K' N' T' m ns' ts' lv' ρ',WS Z σ' c' L' K' H C cells hp LV N' T' m ns' ts' lv' k→(∀a x,K a=some x→K' a=some x)→RF ρ' hp N' T' LV E t H→el<+:ns'→(∀e∈lv',el<+:e.1)→Φ .next ρ' σ'),EX A (EF w Lf) ((Od w).drop 1) ρ σ Φ
def hZ:((((AA×AX)×AW)×((HS×AZ)×AA))×(((AB×AB)×AB)×((AB×AB)×AB)))×((((AB×AB)×AB)×((AB×List Int)×ZT))×(((List Nd×List Nd)×(List (Nat×Nat)))×((Nat×Nat)×(CL→AW→AA→Prop))))→Prop:=fun t=>Vp t.1.1.1.1.1 t.1.1.1.1.2 t.1.1.1.2 t.1.1.2.1.1 t.1.1.2.1.2 t.1.1.2.2 t.1.2.1.1.1 t.1.2.1.1.2 t.1.2.1.2 t.1.2.2.1.1 t.1.2.2.1.2 t.1.2.2.2 t.2.1.1.1.1 t.2.1.1.1.2 t.2.1.1.2 t.2.1.2.1.1 t.2.1.2.1.2 t.2.1.2.2 t.2.2.1.1.1 t.2.2.1.1.2 t.2.2.1.2 t.2.2.2.1.1 t.2.2.2.1.2 t.2.2.2.2
def DY:=zE hZ ((((((fun _=>none),{}),(fun _=>none)),((De,(fun _=>0)),(fun _=>none))),(((0,0),0),((0,0),0))),((((0,0),0),((0,[]),(fun _ _ _ _ _=>True))),((([],[]),[]),((0,0),(fun _ _ _=>True)))))
def gx:=DY.1.1.1.1.1
def Op:=DY.1.1.1.1.2
def Jw:=DY.1.1.1.2
def Sq:=DY.1.1.2.1.1
def MS:=DY.1.1.2.1.2
def Ia:=DY.1.1.2.2
def Wi:=DY.1.2.1.1.1
def Uf:=DY.1.2.1.1.2
def UY:=DY.1.2.1.2
def IX:=DY.1.2.2.1.1
def KR:=DY.1.2.2.1.2
def KV:=DY.1.2.2.2
def kK:=DY.2.1.1.1.1
def Ol:=DY.2.1.1.1.2
def xI:=DY.2.1.1.2
def wX:=DY.2.1.2.1.1
def XW:=DY.2.1.2.1.2
def Us:=DY.2.1.2.2
def HL:=DY.2.2.1.1.1
def zP:=DY.2.2.1.1.2
def GJ:=DY.2.2.1.2
def VP:=DY.2.2.2.1.1
def OG:=DY.2.2.2.1.2
def b8:=DY.2.2.2.2
set_option maxHeartbeats 1000000 in
theorem si:Vp gx Op Jw Sq MS Ia Wi Uf UY IX KR KV kK Ol xI wX XW Us HL zP GJ VP OG b8:=fun{lvA}{lv} B R fr W M a4 a2 d5 F hw p1 p2 q=>by
 refine LG (M.nds W.z) fun n1 n2 n3 n4 n5=>?_;have d2:Jw "heap_now"=some (.ref (MS .hp)):=by rw[W.root];exact F.r1
 have hl:=W.lvs.len;have f3:=(M.add W.z).1.z;refine AJ (CP (Bj (AG hw (BB (HP (BO ?_))))));by_cases h0:OG=0
 ·refine CQ (decide_eq_true (!A6 Zch h0)) ?_;refine AJ (Bg (Cd (l:=IX) Fu Fv (AG F.r4 ⟨rfl,W.lv_at,Ab (Bw (BX (AG F.r2 (AG F.r3 ⟨!ld rfl,FC W.lv_at (!ln (AK (Ac hl) n4) rfl) ?_⟩))))⟩)));have X1:=W.setL (lvB:=lvA++[.tup [.ref KR,.ref KV]]);refine BN (M.push W.z) fun b1 b2 z'=>?_;refine AJ (Bg (Bu B d2 X1.P.iH () (gM w) (XB w) (AC.nil (ZF B (R.lo rfl) X1.P b1 b2 (!ln (AK (Ac n5) n4) rfl) fun L2 a0 P2 F2=>?_))));have W2:WS Us a0 (E0 Sq) L2 Ia Wi Uf XW UY IX KR KV (lvA++[.tup [.ref KR,.ref KV]]) HL GJ (lv++[(HL,GJ)]) VP:=⟨X1.fm P2 F2,W.kn,W.cne,F2.root.trans W.root,z',W.hN,W.hT,W.lvs.snoc ⟨KR,KV,rfl,W.hN,W.hT⟩⟩;refine Ax (PM B R fr W2 M a4 a2 F.r1 F.r2 F.r3 F.r4 F.r6 F.r7 fun a1 c3 L3 n=>q a1 c3 L3 Ia KR KV _ HL GJ _ Jw n (Sy Ia) F p1 fun e he=>?_);rcases CE.mp he with h|h
  ·exact p2 e h
  ·rw[Ap.mp h];exact p1
 refine Ba (decide_eq_false (!A6 Zbq h0)) ?_;have rest:∀{Ψ:CL→AW→AA→Prop} a5,WS Us a5 Sq MS Ia Wi Uf XW UY IX KR KV lvA HL GJ lv (VP+1)→(∀c5 a0,EX Op (EF w Ol) ((Od w).drop 2) c5 a0 b8→Ψ .next c5 a0)→EX Op (EF w Ol) (match(Od w)[1]? with|some (Stmt.If _ _ [Stmt.If _ _ e _] _)=>e|_=>[]) Jw a5 Ψ:=fun{Ψ} a5 m a9=>by
  refine AJ (CP (Bj (AG hw (BB (HP (BO ?_))))));by_cases h2:OG=2
  ·refine CQ (decide_eq_true (!A6 Zcm h2)) ?_;refine AJ (BR (CH (AG F.r3 (Da (Ab (Xw B (R.lo rfl) m.X (m.up _ _ m.hN) a2 (by rw[←n1];exact f3) F.r7 F.r2 fun a b a0 ha c1 X2=>⟨!Cz _,fun D nD nb=>?_⟩))))));have W2:=m.go X2 m.root m.z;have x3:An a0 (upd a0 D (.list [.tup [.int (a:Nat),.int (b:Nat)]])):=.new nD;have hD:upd a0 D (.list [.tup [.int (a:Nat),.int (b:Nat)]]) D=some (.list [.tup [.int (a:Nat),.int (b:Nat)]]):=Am _ _ _;have n:=W2.go (W2.X.ext0 x3) W2.root W2.z;generalize upd a0 D (.list [.tup [.int (a:Nat),.int (b:Nat)]])=a1 at*;refine FN (M.asks n.z a2) fun By ph G g zz=>?_;have tz:=G.tz;refine Ka (n.get n.hT) hD (by rw[AU,AU];simp;exact ln tz rfl) fun D4 a7 g0=>A2 ?_;have x4:An a1 (upd a1 D4 (.list (A1 (GJ.map Ay)++[.tup [.int (a:Nat),.int (b:Nat)]]))):=.new a7;have a6:upd a1 D4 (.list (A1 (GJ.map Ay)++[.tup [.int (a:Nat),.int (b:Nat)]])) D4=some (.list (A1 (GJ.map Ay)++[.tup [.int (a:Nat),.int (b:Nat)]])):=Am _ _ _;have X4:=n.X.ext x4;have e7:=n.X.le (σ':=upd a1 D4 (.list (A1 (GJ.map Ay)++[.tup [.int (a:Nat),.int (b:Nat)]])));have f2:=Gn (K:=upd Ia IX (.list lvA)) a7 a6;have d6:D4≠IX:=by rintro rfl;exact Bh ((n.lv_at.symm.trans a7))
   generalize upd a1 D4 (.list (A1 (GJ.map Ay)++[.tup [.int (a:Nat),.int (b:Nat)]]))=σ4 at*;generalize CX (upd Ia IX (.list lvA)) a1 σ4=K4 at*;have F4:=F.told (T':=D4);have d4:put Jw "told" (.ref D4) "heap_now"=some (.ref (MS .hp)):=by rw[n.root];exact F4.r1
   have e8:∀{Ψ:AV→AA→Prop}{j:Nat}{v:AV}{p1 p2 p3 p4 p5 p6:A3}{k1 k2:Nat},[AV.int (a:Nat),.int (b:Nat)][j]? =some v→j<2→Ψ v σ4→
     EV Op (EF w Ol) (.Subscript (.Subscript (.Name "told" p1) (.UnaryOp .USub (.Constant (.int 1) k1 p2) p3) p4) (.Constant (.int (j:Nat)) k2 p5) p6) (put Jw "told" (.ref D4)) σ4 Ψ:=fun hv hj qq=>by
    refine CV (CV (AG Ar (Px (BB (QF ⟨⟨_,_,.list a6⟩,Zdn a6 (x:=.tup [.int (a:Nat),.int (b:Nat)]) (!CZ t8) (by rw[BJ,AU,AU];simp;exact A6 vA) ?_ (by rw[BJ,AU,AU];simp;exact ln (Zff tz 2) rfl) (BB ⟨⟨_,_,.tup⟩,Fk (!A6 o0) (by rw[EW];exact hv) (!A6 dw hj) qq⟩)⟩)))));rw[BJ,AU,AU,show((-(1:Int))+((GJ.length+[AV.tup [.int (a:Nat),.int (b:Nat)]].length:Nat):Int)).toNat=GJ.length by simp;exact tY,It (by rw[AU,AU];exact A9 _),AU,AU,Qf];rfl
   refine AL (M.tell n.z ha c1) fun S4 z4=>?_;have ul:Sq.uab.length=HL.length:=by rw[←S4.nl,n1]
   refine AJ (Bg (Bu B d4 X4.P.iH () (ZY w) (Vd w) (GT (e8 (j:=0) rfl (!ld rfl) (e8 (j:=1) rfl (!A9 _) (Bw (BX (DJ (DJ ⟨!ld rfl,?_⟩)))))))));refine gd B (R.lo rfl) X4.P S4 (!AK ha (Ac ul.symm)) (!AK c1 (Ac ul.symm)) fun L5 f5 v P5 F5=>?_;have X5:=X4.fm P5 F5;refine AL (n.more (ns':=HL) (ts':=GJ++[(a,b)]) (N':=KR) (T':=D4) X5 e7 (F5.root.trans n.root) z4 ⟨_,e7 _ _ (n.up _ _ n.hN),rfl,n.ne n.hN⟩ ⟨_,f2,by simp,d6⟩) fun W5 b5=>?_;exact Ax (Ax (a9 _ _ (PM B R fr W5 M ⟨b5 _ _ a4.1,b5 _ _ a4.2⟩ a2 F4.r1 F4.r2 F4.r3 F4.r4 F4.r6 F4.r7 fun a3 c6 L6 W6=>q a3 c6 L6 _ _ _ _ _ _ _ _ W6 b5 F4 p1 p2)))
  ·refine Ba (decide_eq_false (!A6 rT h2)) ?_;have d3:Jw "heap_now"=some (.ref (MS .hp)):=d2;refine AJ (CP (Bj (AG hw (BB (HP (BO ?_))))));by_cases h3:OG=3
   ·refine CQ (decide_eq_true (!A6 Zbk h3)) ?_;refine AL (M.add m.z) fun O c8=>?_;refine AJ (BR (Hy B (iD w) (WW w) (GT (AG F.r7 (AG d3 (AG F.r2 ?_))))));refine aU B (R.lo rfl) m.X O (by rw[n1];exact a2) (by rw[n1];exact m.up _ _ m.hN) fun nd c2 L2 a0 N2 K2 b1 b2 b3 hM X2 a8 b4 e2=>A2 ?_;rw[n1]at b3 b4;have z2:=c8 nd c2 b1 b2 b3 hM;have neN:N2≠IX:=by
     rintro rfl;have e3:=a8 _ _ (Am Ia IX (.list lvA));rw[b4]at e3;have e4:CN (Fa HL nd)=lvA:=Internal.AO.list.inj (Ao e3);have e0:=(Qp HL nd).length_le;cases hq:Fa HL nd with
     |nil=>rw[hq]at e0;exact absurd (OD a2 e0) (EP _)
     |cons u us=>
      rw[hq]at e4;have b7:=m.lvs;rw[←e4]at b7;cases lv with
      |nil=>exact b7.elim
      |cons e es=>
       refine Cr b7.1 fun N3 T3 e5 zz=>?_;have e6:B1 u.key=_:=e5;rw[GR]at e6;cases e6
    refine AL (m.more (ns':=Fa HL nd) (ts':=GJ) (N':=N2) (T':=KV) X2 a8 (e2.trans m.root) z2 ⟨_,b4,rfl,neN⟩ ⟨_,a8 _ _ (m.up _ _ m.hT),rfl,m.ne m.hT⟩) fun W2 b6=>?_;have F2:=F.nodes (N':=N2);have pp:=Qp HL nd;exact Ax (Ax (Ax (a9 _ _ (PM B R fr W2 M ⟨b6 _ _ a4.1,b6 _ _ a4.2⟩ (OD a2 pp.length_le) F2.r1 F2.r2 F2.r3 F2.r4 F2.r6 F2.r7 fun a3 c6 L6 W6=>q a3 c6 L6 _ _ _ _ _ _ _ _ W6 b6 F2 (p1.trans pp) p2))))
   ·refine Ba (decide_eq_false (!A6 Zb3 h3)) ?_;refine FN (M.settle m.z) fun I μ Go hI hz=>?_;refine AJ (Bg (Bu B d3 m.X.P.iH () (R4 w) (Ot w) (AC.nil (Rc B (R.lo rfl) Go m.X.P hI fun c3 L3 a1 e9 f1 P3 F3=>?_))));have n:=m.go (m.X.fm P3 F3) (F3.root.trans m.root) (M.less (hz c3 e9 f1));exact Ax (Ax (Ax (a9 _ _ (PM B R fr n M a4 a2 F.r1 F.r2 F.r3 F.r4 F.r6 F.r7 fun a3 c6 L6 W6=>q a3 c6 L6 _ _ _ _ _ _ _ _ W6 (Sy Ia) F p1 p2))))
 refine AJ (CP (Lm (iL (Bj (AG hw (BB (HP (BO ?_))))))));by_cases h1:OG=1
 ·refine CQ (decide_eq_true (!A6 mz h1)) ?_;refine iL (iK (R.lo rfl) W M F.r4 fun a5 m=>?_);by_cases b0:lv=[]
  ·refine Ba (decide_eq_false (by simpa using b0)) ?_;refine Ba rfl ?_;exact rest a5 m fun zz zz h=>Ax h
  ·refine CQ (decide_eq_true b0) ?_;refine Zdx ?_;refine CQ rfl ?_;refine Ei (m.drop (A:=Op) B M b0) fun d1 N' T' lv' c4=>Ii c4 fun e e1 e2 hz c9=>?_;subst e1 e2;have hL:=m.lv_at;refine AJ (BR (Cd (l:=IX) FW Fw (AG F.r4 ⟨rfl,hL,AC.nil (FS hL (by rw[BJ]at hz;exact Al Y1 hz) ?_)⟩)));refine FB R.handled (.tup _) rfl (BZ (A2 (BZ (A2 (Dm ?_)))));have X3:=m.setL (lvB:=d1);have F3:=(F.nodes (N':=N')).told (T':=T');have f0:put (put Jw "nodes" (.ref N')) "told" (.ref T') "heap_now"=some (.ref (MS .hp)):=by rw[m.root];exact F3.r1
   refine AJ (Bg (Bu B f0 X3.P.iH () (Rz w) (PP w) (AC.nil ?_)));rw[m.root];refine c9 (env:=EF w Ol) (R.lo rfl) fun a1 c3 L3 n=>?_;have pe:=p2 e (by simp);have W4:=n.go n.X n.root (M.less n.z);exact Ax (Ax (PM B R fr W4 M a4 (OD d5 pe.length_le) F3.r1 F3.r2 F3.r3 F3.r4 F3.r6 F3.r7 fun a3 c6 L6 W6=>q a3 c6 L6 _ _ _ _ _ _ _ _ W6 (Sy Ia) F3 pe fun e' f4=>p2 e' (by simp[f4])))
 ·refine Ba (decide_eq_false (!A6 oG h1)) ?_;refine Ba rfl ?_;exact rest gx W fun zz zz h=>Ax h
theorem ax{σ A ρ c L K H C hp LV N T E Lf t dx cells Z ns el ts k r Φ}:Vp σ A ρ c L K H C hp LV N T E Lf t dx cells Z ns el ts k r Φ:=@zF _ hZ _ @si (((((σ,A),ρ),((c,L),K)),(((H,C),hp),((LV,N),T))),((((E,Lf),t),((dx,cells),Z)),(((ns,el),ts),((k,r),Φ))))
theorem Zby(B:Aj)(R:Ah A 15)(fr:A.frames=some [EF w Lf])(W:WS Z σ c L K H C cells hp LV N T lvA ns ts lv (k+1))(M:GL Z)(a1:Cu K t dx hp)(a2:0<ns.length)(n:0<el.length)(F:RF ρ hp N T LV E t H)(hw:ρ "lap"=some (.int j))
  (p1:el<+:ns)(p2:∀e∈lv,el<+:e.1)
  (q:∀σ' c' L' K' N' T' a0 ns' ts' lv' ρ',WS Z σ' c' L' K' H C cells hp LV N' T' a0 ns' ts' lv' k→(∀a x,K a=some x→K' a=some x)→RF ρ' hp N' T' LV E t H→el<+:ns'→(∀e∈lv',el<+:e.1)→Φ .next ρ' σ'):EX A (EF w Lf) (Od w) ρ σ Φ:=by
 refine AJ (BR (NY (Bj (AG hw (BB (KW (BO ?_)))))));by_cases h:0<j
 ·refine CQ (decide_eq_true h) ?_;refine Ng B (R.lo rfl) W.X F.r7 (m:=5) (!ld rfl) (fun q=>BB q) fun r a3 hr X1 s1=>A2 ?_;exact ax B R fr (W.go X1 W.root W.z) M a1 a2 n (F.put (.inl rfl)) (r:=r) Ar p1 p2 q
 ·refine Ba (decide_eq_false h) ?_;refine BB (A2 ?_);exact ax B R fr W M a1 a2 n (F.put (.inl rfl)) (r:=0) Ar p1 p2 q
def XY(σ:AA)(A:AX)(ρ:AW)(c:HS)(L:AZ)(K:AA)(H:AB)(C:AB)(hp:AB)(LV:AB)(N:AB)(T:AB)(E:AB)(Lf:AB)(t:AB)(dx:AB)(cells:List Int)(Z:ZT)(lvA:List AV)(ns:List Nd)(el:List Nd)(ts:List (Nat×Nat))(lv:List C9)(Φ:AV→AA→Prop):Prop:=∀(B:Aj)(R:Ah A 15)(fr:A.frames=some [EF w Lf])(W:WS Z σ c L K H C cells hp LV N T lvA ns ts lv 5)(M:GL Z)(n:Cu K t dx hp)(m:0<el.length)(F:RF ρ hp N T LV E t H)(hE:K E=some (.list (CN el)))(a0:∀nd∈el,Cx nd.1)(p1:el<+:ns)(p2:∀e∈lv,el<+:e.1)(q:∀σ',Φ (.bool true) σ'),EX A (EF w Lf) ((KF (J9 w)).drop 6) ρ σ (backs Φ)
def Y4:((((AA×AX)×AW)×((HS×AZ)×AA))×(((AB×AB)×AB)×((AB×AB)×AB)))×((((AB×AB)×AB)×((AB×List Int)×ZT))×(((List AV×List Nd)×List Nd)×(((List (Nat×Nat))×List C9)×(AV→AA→Prop))))→Prop:=fun t=>XY t.1.1.1.1.1 t.1.1.1.1.2 t.1.1.1.2 t.1.1.2.1.1 t.1.1.2.1.2 t.1.1.2.2 t.1.2.1.1.1 t.1.2.1.1.2 t.1.2.1.2 t.1.2.2.1.1 t.1.2.2.1.2 t.1.2.2.2 t.2.1.1.1.1 t.2.1.1.1.2 t.2.1.1.2 t.2.1.2.1.1 t.2.1.2.1.2 t.2.1.2.2 t.2.2.1.1.1 t.2.2.1.1.2 t.2.2.1.2 t.2.2.2.1.1 t.2.2.2.1.2 t.2.2.2.2
def DV:=zE Y4 ((((((fun _=>none),{}),(fun _=>none)),((De,(fun _=>0)),(fun _=>none))),(((0,0),0),((0,0),0))),((((0,0),0),((0,[]),(fun _ _ _ _ _=>True))),((([],[]),[]),(([],[]),(fun _ _=>True)))))
def yL:=DV.1.1.1.1.1
def Zbw:=DV.1.1.1.1.2
def t7:=DV.1.1.1.2
def R2:=DV.1.1.2.1.1
def Rk:=DV.1.1.2.1.2
def So:=DV.1.1.2.2
def V1:=DV.1.2.1.1.1
def dK:=DV.1.2.1.1.2
def WP:=DV.1.2.1.2
def Wm:=DV.1.2.2.1.1
def aH:=DV.1.2.2.1.2
def Zq:=DV.1.2.2.2
def eS:=DV.2.1.1.1.1
def tw:=DV.2.1.1.1.2
def cW:=DV.2.1.1.2
def qk:=DV.2.1.2.1.1
def aN:=DV.2.1.2.1.2
def bH:=DV.2.1.2.2
def RG:=DV.2.2.1.1.1
def Ov:=DV.2.2.1.1.2
def VA:=DV.2.2.1.2
def RH:=DV.2.2.2.1.1
def OH:=DV.2.2.2.1.2
def xe:=DV.2.2.2.2
theorem yC:XY yL Zbw t7 R2 Rk So V1 dK WP Wm aH Zq eS tw cW qk aN bH RG Ov VA RH OH xe:=fun B R fr W M a2 n F hE a7 p1 p2 q=>by
 refine AJ (Gs R.handled (Le (Fl B (Jf w) JS ⟨rfl,Ab (CH (BB (Ng B (R.lo rfl) W.X F.r7 (m:=3) (!ld rfl) (fun q=>BB q) fun r b3 hr X1 s1=>Jj ⟨3+r,by rw[show(3:Int)+((r:Nat):Int)=((3+r:Nat):Int) by exact A6 yx],!A6 mW hr,⟨_,_,rfl⟩,trivial,3+r,
  fun i ρ' σ'=>i≤3+r∧∃R2 Rk K' N' T' RG Ov RH OH,WS bH σ' R2 Rk K' V1 dK aN WP Wm N' T' RG Ov RH OH (5-i)∧(∀a x,So a=some x→K' a=some x)∧RF ρ' WP N' T' Wm eS cW V1∧VA<+:Ov∧∀e∈OH,VA<+:e.1,
  ⟨!Be _,R2,Rk,So,aH,Zq,RG,Ov,RH,OH,W.go X1 W.root W.z,Sy So,F,p1,p2⟩,?_⟩)))⟩ ⋯ () () () ())))
 clear W F p1 p2;rintro i b7 b4 ⟨hi,c2,L2,K2,N2,T2,b1,a8,b5,b6,W2,a1,F2,p1,p2⟩;refine⟨hi,_,rfl,?_⟩;have a4:0<a8.length:=OD n p1.length_le;by_cases a0:i<3+r
 ·rw[if_pos a0];obtain⟨k,hk⟩:∃k,5-i=k+1:=⟨4-i,!uu hr a0⟩;rw[hk]at W2;refine A2 ?_;refine Zby B R fr W2 M ⟨a1 _ _ a2.1,a1 _ _ a2.2⟩ a4 n (F2.put (.inr (.inl rfl))) Ar p1 p2 fun c1 c3 L3 K3 N3 T3 a3 b0 a5 a6 b2 W3 a9 F3 q1 q2=>?_;refine⟨!a0,c3,L3,K3,N3,T3,a3,b0,a5,a6,?_,JG a1 a9,F3,q1,q2⟩;rw[show 5-(i+1)=k by exact m5 hk];exact W3
 ·rw[if_neg a0];exact uk B (R.lo rfl) W2 M F2.r1 F2.r2 F2.r3 F2.r4 F2.r5 (a1 _ _ hE) p1 p2 n a7 q
theorem yl{σ A ρ c L K H C hp LV N T E Lf t dx cells Z lvA ns el ts lv Φ}:XY σ A ρ c L K H C hp LV N T E Lf t dx cells Z lvA ns el ts lv Φ:=@zF _ Y4 _ @yC (((((σ,A),ρ),((c,L),K)),(((H,C),hp),((LV,N),T))),((((E,Lf),t),((dx,cells),Z)),(((lvA,ns),el),((ts,lv),Φ))))
theorem GL.lessTo(M:GL Z){m:Nat}:∀{k:Nat},m≤k→Z c ns ts lv k→Z c ns ts lv m:=fun{k} h z=>by
 induction h with
 |refl=>exact z
 |step _ n=>exact n (M.less z)
theorem At.add{a:AB}{x:AO}(X:At σ c L K H C cells)(e:σ a=some x)(f:¬A8 c L a)(n:a≠H):At σ c L (upd K a x) H C cells:=⟨X.P,fun b y h=>by
 by_cases hb:b=a
 ·subst hb;rw[Am]at h;cases h;exact⟨e,f,n⟩
 ·rw[Au _ _ hb]at h;exact X.K b y h,X.hand,X.nH,X.nC⟩
theorem WS.node(B:Aj)(R:Ah A 11)(W:WS Z σ c L K H C cells hp LV N T lvA ns ts lv (k+1))(M:GL Z)(a3:0<ns.length)
  (q:∀nd σ' c' L' K' N',WS Z σ' c' L' K' H C cells hp LV N' T lvA (Fa ns nd) ts lv k→(∀a x,K a=some x→K' a=some x)→Φ (.ref N') σ'):AF A (.ref 562) [.ref H,.ref hp,.ref N] σ Φ:=by
 refine LG (M.nds W.z) fun n1 n2 n3 n4 n5=>?_;refine AL (M.add W.z) fun O a2=>?_;rw[←W.root];refine aU B R W.X O (by rw[n1];exact a3) (by rw[n1];exact W.up _ _ W.hN) fun nd c2 L2 a4 N2 K2 b1 b2 b3 hM X2 n m e2=>?_;rw[n1]at b3 m;have z2:=a2 nd c2 b1 b2 b3 hM;have neN:N2≠LV:=by
  rintro rfl;have e3:=n _ _ (Am K N2 (.list lvA));rw[m]at e3;have e4:CN (Fa ns nd)=lvA:=by obtain rfl:=Internal.AO.list.inj (Ao e3);rfl
  have a1:=(Qp ns nd).length_le;cases hq:Fa ns nd with
  |nil=>rw[hq]at a1;exact absurd (OD a3 a1) (EP _)
  |cons u us=>
   rw[hq]at e4;have a0:=W.lvs;rw[←e4]at a0;cases lv with
   |nil=>exact a0.elim
   |cons e es=>
    refine Cr a0.1 fun N3 T3 e5 zz=>?_;have e6:B1 u.key=_:=e5;rw[GR]at e6;cases e6
 refine AL (W.more (ns':=Fa ns nd) (ts':=ts) (N':=N2) (T':=T) X2 n (e2.trans W.root) z2 ⟨_,m,rfl,neN⟩ ⟨_,n _ _ (W.up _ _ W.hT),rfl,W.ne W.hT⟩) fun W2 a5=>?_;exact q nd a4 c2 L2 _ N2 W2 a5
theorem Zce(w:AD):Co (KK w) Bk "Levels"=some (some (.ref 460)):=∅
theorem wC(w:AD):Co (KK w) Bk "Trial"=some (some (.ref 517)):=∅
theorem sc(w:AD):Co (KK w) Bk "abs"=some none:=∅
theorem Za9:Gy "abs"=some (.builtin "abs"):=∅
abbrev FZ:List Nd:=[("a",[]),("b",[]),("c",[])]
def VW(σ:AA)(A:AX)(ρ:AW)(c:HS)(L:AZ)(K:AA)(H:AB)(C:AB)(hp:AB)(LV:AB)(N:AB)(T:AB)(Lf:AB)(cells:List Int)(Z:ZT)(lvA:List AV)(ns:List Nd)(ts:List (Nat×Nat))(lv:List C9)(Φ:AV→AA→Prop):Prop:=∀(B:Aj)(R:Ah A 15)(fr:A.frames=some [EF w Lf])(W:WS Z σ c L K H C cells hp LV N T lvA ns ts lv 8)(M:GL Z)(m:0<ns.length)(hl:lv=[])(n:ρ "heap_now"=some (.ref hp))(r2:ρ "nodes"=some (.ref N))(r3:ρ "told"=some (.ref T))(r4:ρ "levels"=some (.ref LV))(r7:ρ "hand"=some (.ref H))(q:∀σ',Φ (.bool true) σ'),EX A (EF w Lf) ((KF (J9 w)).drop 4) ρ σ (backs Φ)
def bq:((((AA×AX)×AW)×(HS×AZ))×(((AA×AB)×AB)×(AB×AB)))×((((AB×AB)×AB)×(List Int×ZT))×(((List AV×List Nd)×(List (Nat×Nat)))×(List C9×(AV→AA→Prop))))→Prop:=fun t=>VW t.1.1.1.1.1 t.1.1.1.1.2 t.1.1.1.2 t.1.1.2.1 t.1.1.2.2 t.1.2.1.1.1 t.1.2.1.1.2 t.1.2.1.2 t.1.2.2.1 t.1.2.2.2 t.2.1.1.1.1 t.2.1.1.1.2 t.2.1.1.2 t.2.1.2.1 t.2.1.2.2 t.2.2.1.1.1 t.2.2.1.1.2 t.2.2.1.2 t.2.2.2.1 t.2.2.2.2
def EN:=zE bq ((((((fun _=>none),{}),(fun _=>none)),(De,(fun _=>0))),((((fun _=>none),0),0),(0,0))),((((0,0),0),([],(fun _ _ _ _ _=>True))),((([],[]),[]),([],(fun _ _=>True)))))
def lb:=EN.1.1.1.1.1
def vG:=EN.1.1.1.1.2
def ny:=EN.1.1.1.2
def TG:=EN.1.1.2.1
def SK:=EN.1.1.2.2
def cX:=EN.1.2.1.1.1
def OL:=EN.1.2.1.1.2
def fO:=EN.1.2.1.2
def Sk:=EN.1.2.2.1
def Eh:=EN.1.2.2.2
def dQ:=EN.2.1.1.1.1
def Ph:=EN.2.1.1.1.2
def uG:=EN.2.1.1.2
def cg:=EN.2.1.2.1
def ZH:=EN.2.1.2.2
def Ig:=EN.2.2.1.1.1
def Po:=EN.2.2.1.1.2
def Sh:=EN.2.2.1.2
def dp:=EN.2.2.2.1
def xC:=EN.2.2.2.2
theorem qh:VW lb vG ny TG SK cX OL fO Sk Eh dQ Ph uG cg ZH Ig Po Sh dp xC:=fun B R fr W M a2 hl r1 r2 r3 r4 r7 q=>by
 refine AJ (Gs R.handled (Le (Fl B (Jf w) JS ⟨rfl,Ab (CH (BB (Ng B (R.lo rfl) W.X r7 (m:=3) (!ld rfl) (fun q=>BB q) fun r b5 hr X1 s1=>Jj ⟨1+r,by rw[show(1:Int)+((r:Nat):Int)=((1+r:Nat):Int) by exact A6 xF],!A6 sP hr,⟨_,_,rfl⟩,trivial,1+r,
  fun i ρ' σ'=>i≤1+r∧∃TG SK K' N' Po,WS ZH σ' TG SK K' OL fO cg Sk Eh N' Ph Ig Po Sh dp (8-i)∧0<Po.length∧ρ' "heap_now"=some (.ref Sk)∧ρ' "nodes"=some (.ref N')∧ρ' "told"=some (.ref Ph)∧ρ' "levels"=some (.ref Eh)∧ρ' "hand"=some (.ref OL),
  ⟨!Be _,TG,SK,cX,dQ,Po,W.go X1 W.root W.z,a2,r1,r2,r3,r4,r7⟩,?_⟩)))⟩ ⋯ () () () ())))
 clear W r1 r2 r3 r4 r7 a2;rintro i b6 b1 ⟨hi,c2,L2,K2,N2,a0,n,a2,r1,r2,r3,r4,r7⟩;refine⟨hi,_,rfl,?_⟩;by_cases a3:i<1+r
 ·rw[if_pos a3];obtain⟨k,hk⟩:∃k,8-i=k+1:=⟨7-i,!lr hr a3⟩;rw[hk]at n;refine A2 (AJ (BR (Hy B (iD w) (WW w) (GT (AG (by rw[AP ⋯];exact r7) (AG (by rw[AP ⋯];exact r1) (AG (by rw[AP ⋯];exact r2) ?_)))))));refine n.node B (R.lo rfl) M a2 fun nd a1 c3 L3 K3 N3 W3 b7=>A2 (Ax ⟨!a3,c3,L3,K3,N3,_,?_,OD a2 (Qp a0 nd).length_le,?_,Ar,?_,?_,?_⟩)
  ·rw[show 8-(i+1)=k by exact mK hk];exact W3
  ·rw[AP ⋯,AP ⋯];exact r1
  ·rw[AP ⋯,AP ⋯];exact r3
  ·rw[AP ⋯,AP ⋯];exact r4
  ·rw[AP ⋯,AP ⋯];exact r7
 ·rw[if_neg a3];have z5:=M.lessTo (m:=5) (!yY hr hi) n.z;refine FN (M.settle z5) fun I μ Go hI hz=>?_;refine LG (M.nds z5) fun n1 n2 n3 n4 n5=>?_;refine AJ (NR (names:=["trial","elder"]) R.handled () (Bw (BX (Lg B (NP B (wC w) ⟨_,.cl (wJ w),Ab (AG r1 ?_)⟩ () () () ⋯) ()))));have:=n.root;rw[←this];refine pM B (R.lo rfl) n.X.P Go hI fun t dx c3 L3 a1 b0 b2 P3 F3 T3 nt nd a5 a6=>?_;have X3:=n.X.fm P3 F3;have hH:=n.X.hand;have tH:t≠OL:=by rintro rfl;refine B0 hH fun p q h=>?_;exact Bh ((h.h.symm.trans a5))
  have dH:dx≠OL:=by rintro rfl;refine B0 hH fun p q h=>?_;exact Bh ((h.h.symm.trans a6))
  have kt:∀{a},b1 a=none→upd K2 Eh (.list Ig) a=none:=fun{a} h=>by
   cases z:upd K2 Eh (.list Ig) a with
   |none=>rfl
   |some x=>have:=n.X.get z;exact As ((h.symm.trans this))
  have tL:t≠Eh:=by rintro rfl;exact Bh ((n.lv_at.symm.trans a5))
  have dL:dx≠Eh:=by rintro rfl;exact Bh ((n.lv_at.symm.trans a6))
  have X4:=(X3.add T3.1 nt tH).add T3.2 nd dH;have td:t≠dx:=by rintro rfl;have h1:=T3.1;have h2:=T3.2;exact(nomatch (Ao ((h1.symm.trans h2))))
  have a8:∀a x,upd K2 Eh (.list Ig) a=some x→upd (upd (upd K2 Eh (.list Ig)) t (.inst 517 dx)) dx (.ns 1 (Oz (L3 .hp))) a=some x:=fun a x e=>by
   rw[Au _ _ (by rintro rfl;exact As (((kt a6).symm.trans e))),Au _ _ (by rintro rfl;exact As (((kt a5).symm.trans e)))];exact e
  refine AL (n.more (ns':=a0) (ts':=Sh) (N':=N2) (T':=Ph) X4 a8 (F3.root.trans n.root) (hz c3 b0 b2) ⟨_,a8 _ _ (n.up _ _ n.hN),rfl,n.ne n.hN⟩ ⟨_,a8 _ _ (n.up _ _ n.hT),rfl,n.ne n.hT⟩) fun W4 c4=>?_;have a9:Cu (IZ (upd (upd (upd K2 Eh (.list Ig)) t (.inst 517 dx)) dx (.ns 1 (Oz (L3 .hp)))) Eh) t dx Sk:=by
   refine⟨?_,?_⟩
   ·show(if t=Eh then _ else _)=_;rw[if_neg tL,Au _ _ td,Am]
   ·show(if dx=Eh then _ else _)=_;rw[if_neg dL,Am,F3.root,n.root]
  generalize IZ (upd (upd (upd K2 Eh (.list Ig)) t (.inst 517 dx)) dx (.ns 1 (Oz (L3 .hp)))) Eh=K4 at*;have b3:=(M.add (k:=4) (M.lessTo (m:=5) (!A9 _) W4.z)).1.z;refine BN (M.nds W4.z) fun m1 m2 zz=>?_;refine FF B (JR w) Jc (Ab (AG r2 (KY (W4.get W4.hN) (by rw[AU,←m1];exact ln b3 rfl) fun E nE c1=>⟨!ld rfl,_,.tup _,rfl,BZ (GW () (BZ (GW () (Dm ?_))))⟩)));have x5:An a1 (upd a1 E (.list (CN a0))):=.new nE;have hE:upd a1 E (.list (CN a0)) E=some (.list (CN a0)):=Am _ _ _;have X5:=W4.X.ext x5;have a7:=W4.X.le (σ':=upd a1 E (.list (CN a0)));have kE:=Gn (K:=upd K4 Eh (.list Ig)) nE hE;have b4:E≠Eh:=by rintro rfl;exact Bh ((W4.lv_at.symm.trans nE))
  generalize upd a1 E (.list (CN a0))=σ5 at*;generalize CX (upd K4 Eh (.list Ig)) a1 σ5=K5 at*;refine AL (W4.more (ns':=a0) (ts':=Sh) (N':=N2) (T':=Ph) X5 a7 W4.root W4.z ⟨_,a7 _ _ (W4.up _ _ W4.hN),rfl,W4.ne W4.hN⟩ ⟨_,a7 _ _ (W4.up _ _ W4.hT),rfl,W4.ne W4.hT⟩) fun W5 a4=>?_;refine yl (el:=a0) (t:=t) (dx:=dx) (E:=E) B R fr W5 M ⟨a4 _ _ a9.1,a4 _ _ a9.2⟩ a2 ⟨?_,?_,?_,?_,?_,?_,?_⟩ (by show(if E=Eh then _ else _)=_;rw[if_neg b4];exact kE) m2 (List.prefix_refl _) (by rw[hl];simp) q
  ·rw[AP ⋯,AP ⋯];exact r1
  ·rw[AP ⋯,AP ⋯];exact r2
  ·rw[AP ⋯,AP ⋯];exact r3
  ·rw[AP ⋯,AP ⋯];exact r4
  ·rw[AP ⋯];exact Ar
  ·exact Ar
  ·rw[AP ⋯,AP ⋯];exact r7
theorem zi{σ A ρ c L K H C hp LV N T Lf cells Z lvA ns ts lv Φ}:VW σ A ρ c L K H C hp LV N T Lf cells Z lvA ns ts lv Φ:=@zF _ bq _ @qh (((((σ,A),ρ),(c,L)),(((K,H),C),(hp,LV))),((((N,T),Lf),(cells,Z)),(((lvA,ns),ts),(lv,Φ))))
end
section
variable {σ σ' σ'' τ:AA} {A:AX} {ρ ρ':AW} {c c':HS} {L L':AZ} {K K':AA} {H C hp LV N T E Lf t dx:AB} {cells:List Int} {Z:ZT}
theorem XV:Bb (.List es p::rest) env=(false,A0 (.List es p) env)::Bb rest env:=by rfl
theorem VQ:Bb (.Tuple es k p::rest) env=(false,A0 (.Tuple es k p) env)::Bb rest env:=by rfl
theorem pG(B:Aj)(R:Ah A 10)(P:AS σ L c)(O:OF c)(n:Cx x)(m:((x,[]):Nd)∉c.nodes)
  (q:∀c' L' σ' v,Si c c' (x,[])→AS σ' L' c'→Fm σ c L σ' c' L'→Φ v σ'):AF A (.ref 296) [.ref (L .hp),.tup [.str x]] σ Φ:=by
 have z:=O.z;have e:AH c.nums (x,[])=none:=by
  cases hq:AH c.nums (x,[])with
  |none=>rfl
  |some i=>exact absurd (DE ((O.num _ i).mp hq)) m
 exact vc B R P O.S e n (!ln z rfl) O.hab (fun w d=>O.hS (x,[]) w d n (!Be _) (by simp) m) fun w' d L' σ' P' F'=>q _ L' σ' _ (.inr ⟨m,w',d,rfl⟩) P' F'
set_option maxHeartbeats 8000000 in
theorem sF(B:Aj)(R:Ah A 15)(fr:A.frames=some [EF w Lf])(X:At σ hs0 L (fun zz=>none) H C cells)(b5:L .hp=hp)(M:GL Z)(r1:ρ "heap_now"=some (.ref hp))(r7:ρ "hand"=some (.ref H))
  (q:∀σ',Φ (.bool true) σ'):EX A (EF w Lf) ((KF (J9 w)).drop 2) ρ σ (backs Φ):=by
 show EX A (EF w Lf) (_::_) ρ σ (backs Φ);refine AJ ?_;refine NR (names:=["nodes","told","levels"]) R.handled ?_ ?_ ?_
 ·rfl
 ·refine Bw (GT ?_ (fun zz=>XV) (fun zz=>XV) (fun zz=>XV));refine Da (GT ?_ (fun zz=>VQ) (fun zz=>VQ) (fun zz=>VQ));refine Bw (Ab (DJ ⟨!Cz _,?_⟩));refine Bw (Ab (DJ ⟨!Cz _,?_⟩));refine Bw (Ab (DJ ⟨!Cz _,!ld rfl,fun N nN d1=>?_⟩));have hN:upd σ N (.list [.tup [.str "a"],.tup [.str "b"],.tup [.str "c"]]) N=some (.list (CN FZ)):=by rw[Am];rfl
  have x1:An σ (upd σ N (.list [.tup [.str "a"],.tup [.str "b"],.tup [.str "c"]])):=.new nN;have X1:=X.ext x1;have kN:=Gn (K:=fun zz=>none) nN hN;generalize upd σ N (.list [.tup [.str "a"],.tup [.str "b"],.tup [.str "c"]])=σ1 at*;generalize CX (fun zz=>none) σ σ1=K1 at*;refine Da (AC.nil ⟨!Be _,fun T nT d2=>?_⟩);have x2:An σ1 (upd σ1 T (.list [])):=.new nT;have X2:=X1.ext x2;have k2:=X1.le (σ':=upd σ1 T (.list []));have kT:=Gn (K:=K1) nT (Am σ1 T (.list []));generalize upd σ1 T (.list [])=σ2 at*;generalize CX K1 σ1 σ2=K2 at*;refine Da (AC.nil ⟨!Be _,fun LV n c9=>?_⟩);have x3:An σ2 (upd σ2 LV (.list [])):=.new n;have c8:=Am σ2 LV (.list []);have X3:=(X2.ext0 x3).add c8 (X2.P.out n) (by rintro rfl;refine B0 X2.hand fun p q h=>?_;exact Bh ((h.h.symm.trans n)));have a9:K2 LV=none:=by
   cases z:K2 LV with
   |none=>rfl
   |some x=>have:=X2.get z;exact As ((n.symm.trans this))
  have b6:C≠LV:=by rintro rfl;refine B0 X2.hand fun p q h=>?_;exact Bh ((h.c.symm.trans n))
  generalize upd σ2 LV (.list [])=σ3 at*;have a6:=k2 _ _ kN;refine⟨!ld rfl,_,.tup _,rfl,BZ (GW () (BZ (GW () (BZ (GW () (Dm ?_))))))⟩;generalize hr:put (put (put ρ "levels" (.ref LV)) "told" (.ref T)) "nodes" (.ref N)=ρ1;have a1:ρ1 "heap_now"=some (.ref hp):=by rw[←hr,AP ⋯,AP ⋯,AP ⋯];exact r1
  have a7:ρ1 "hand"=some (.ref H):=by rw[←hr,AP ⋯,AP ⋯,AP ⋯];exact r7
  have a2:ρ1 "nodes"=some (.ref N):=by rw[←hr];exact Ar
  have a3:ρ1 "told"=some (.ref T):=by rw[←hr,AP ⋯];exact Ar
  have a4:ρ1 "levels"=some (.ref LV):=by rw[←hr,AP ⋯,AP ⋯];exact Ar
  clear hr r1 r7;have neN:N≠LV:=by rintro rfl;exact As ((a9.symm.trans a6))
  have b0:upd K2 LV (.list []) N=some (.list (CN FZ)):=by rw[Au _ _ neN];exact a6
  refine AJ (Gs R.handled (FA (AG a2 ⟨N,CN FZ,rfl,X3.get b0,trivial,trivial,3,fun i ρ' σ'=>i≤3∧∃c L,At σ' c L (upd K2 LV (.list [])) H C cells∧L .hp=hp∧Z c (FZ.take i) [] [] (11-i)∧ρ' "heap_now"=some (.ref hp)∧ρ' "nodes"=some (.ref N)∧ρ' "told"=some (.ref T)∧ρ' "levels"=some (.ref LV)∧ρ' "hand"=some (.ref H),
   ⟨!ld rfl,hs0,L,X3,b5,M.init,a1,a2,a3,a4,a7⟩,?_⟩)))
  rintro i c1 c3 ⟨hi,c4,L4,X4,a0,z4,b1,b2,b3,b4,b7⟩;refine⟨hi,_,⟨_,X4.get b0,rfl⟩,?_⟩;cases hq:(CN FZ)[i]? with
  |some x=>
   have a5:i<3:=(BY.mp hq).1;obtain⟨m,e1,e2,e3,e4⟩:∃m:Str,x=.tup [.str m]∧Cx m∧((m,[]):Nd)∉FZ.take i∧FZ.take (i+1)=FZ.take i++[(m,[])]:=by
    exact sp (C:=fun i=>(CN FZ)[i]? =some x→∃m:Str,x=.tup [.str m]∧Cx m∧((m,[]):Nd)∉FZ.take i∧FZ.take (i+1)=FZ.take i++[(m,[])]) a5 (fun hq=>⟨"a",(Ao hq).symm,.inl rfl,by decide,rfl⟩) (fun hq=>⟨"b",(Ao hq).symm,.inr (.inl rfl),by decide,rfl⟩) (fun hq=>⟨"c",(Ao hq).symm,.inr (.inr (.inl rfl)),by decide,rfl⟩) hq
   subst e1;obtain⟨k,hk⟩:∃k,11-i=k+1:=⟨10-i,!vo a5⟩;rw[hk]at z4;refine AL (M.add z4) fun O a8=>?_;refine AL (M.nds z4) fun n1 zz=>?_;have c6:put c1 "node" (.tup [.str m]) "heap_now"=some (.ref (L4 .hp)):=by rw[AP ⋯,a0];exact b1
   refine A2 (AJ (Bg (Bu B c6 X4.P.iH () (qY w) (d7 w) (Ab (AG Ar (pG B (R.lo rfl) X4.P O e2 (by rw[n1];exact e3) fun c5 L5 d3 v hM P5 F5=>Ax ?_))))));have z5:=a8 (m,[]) c5 e2 (!Be _) (by simp) hM;have:Fa (FZ.take i) (m,[])=FZ.take (i+1):=by unfold Fa;rw[if_neg e3,e4]
   rw[this]at z5;refine⟨!a5,c5,L5,X4.fm P5 F5,F5.root.trans a0,by rw[show 11-(i+1)=k by exact w7 hk];exact z5,?_,?_,?_,?_,?_⟩
   ·rw[AP ⋯];exact b1
   ·rw[AP ⋯];exact b2
   ·rw[AP ⋯];exact b3
   ·rw[AP ⋯];exact b4
   ·rw[AP ⋯];exact b7
  |none=>
   have c2:3≤i:=Gb.mp hq;obtain rfl:i=3:=by exact Ep hi c2
   have W:WS Z c3 c4 L4 K2 H C cells hp LV N T [] FZ [] [] 8:=⟨X4,a9,b6,a0,z4,a6,kT,trivial⟩;exact zi B R fr W M ⋯ rfl b1 b2 b3 b4 b7 q
 ·rfl
end
section
variable {σ σ' σ'' τ:AA} {A:AX} {env:Af} {ρ ρ':AW}
structure Pn(hb:A5)(S:AB)(is:List Int):Prop where
 at_:∃vs,hb.IsList S vs.toArray∧Jp vs is
 z:is.length≤1000
def Ze1{a0 n m}{c:Prop}:=@Pn.casesOn a0 n m (fun zz=>c)
theorem pH(r:Jp vs is):VRs h (BH is) vs:=by
 induction r with
 |nil=>exact .nil
 |cons n t r m=>exact .cons (.int n t) m
theorem Zdj
  (k:EV A env a4 ρ σ fun ov a2=>O0 A env a6 ρ a2 fun hi m=>∃S is b,ov=.ref S∧Pn hb S is∧hi=some ((b:Nat):Int)∧∀D,m D=none→hb.get? D=none→Φ (.ref D) (upd m D (.list (BH (is.take b))))):
  EV A env (.Subscript a4 (.Slice none a6 none p) d1) ρ σ Φ:=fun s S=>
 Subscript_ (AT (k s S) (fun o s₁ b7=>BG b7 fun ov a2 a9 b1 a3 b4=>wpAny_Slice (by
  rw[Yd];refine Ad ?_;refine AT (b4.run (S.step b1 a3)) (fun vu a1 b5=>B0 b5 fun hi m c4=>Bv c4 fun pu b3 a7 c1=>LY c1 fun T is b a8=>Bv a8 fun e1 H e2 q=>?_) fun zz zz e=>e;refine Ad ?_;subst e1 e2;obtain rfl:=Bi a9;refine Ze1 H fun b2 hz=>?_;refine AY b2 fun vs c5=>AL c5 fun c8 hI=>AY c8 fun ob b6=>BN b6 fun ho hc c6=>AY c6 fun n hd=>?_;have a0:=b3.push {cls:=.type "slice",data:=.fields #[.none,vu,.none]};have qs:VRs (a1.heap.push {cls:=.type "slice",data:=.fields #[.none,vu,.none]}) (BH is) vs.toArray.toList:=pH hI;have l1:=qs.toArr;rw[AU]at l1;refine Xg (s:={a1 with heap:=a1.heap.push {cls:=.type "slice",data:=.fields #[.none,vu,.none]}}) ⟨ob,a0.base _ _ ho,hc⟩ slot_list_getitem.lookup (AT (Zf8 (Q:=PV m {a1 with heap:=a1.heap.push {cls:=.type "slice",data:=.fields #[.none,vu,.none]}} Φ) ⟨ob,a0.base _ _ ho,hc,n,hd⟩ ⟨_,B2 _ rfl,rfl,rfl⟩ .none pu .none (!(by intro e;injection e)) ⟨.ref _,upd m _ (.list (BH (is.take b))),.ref _,a0.pushOwn _ ⟨_,_,B2 _ rfl,?_⟩,.pushOwn _ _,q _ a0.fresh.1 a0.fresh.2⟩ (by rw[CJ];exact ln (AK (Ac l1) hz) rfl)) (fun v c9 b0=>BG b0 fun av a5 c2 a0 c3 q=>⟨av,a5,c2,a0,a3.trans (a7.trans ((Aq.push _).trans c3)),q⟩) fun zz zz e=>e);rw[slicePick_upto'];show VRs _ ((is.take b).map _) _;rw[List.map_take];exact(qs.mono fun zz zz zz zz e zz zz=>BC _ e).take)) fun zz zz e=>e)
variable {c c':HS} {L L':AZ} {K K':AA} {H C hp LV N T E Lf t dx:AB} {cells:List Int} {Z:ZT}
set_option maxHeartbeats 8000000 in
theorem w5(B:Aj)(R:Ah A 16)(fr:A.frames=some [])(M:GL Z)(hS:Pn hb S is)(q:∀σ',Φ (.bool true) σ'):AF A (.ref 567) [.ref S] σ Φ:=by
 refine GU (F:=(Za5 w)) (names:=["script"]) B R rfl (fun Lf=>?_) (FL fun zz=>rfl) rfl ∅
 ·refine AJ (Xl R.handled (FA (Zdj (AG () (BB ⟨(50:Nat),rfl,S,is,50,rfl,hS,rfl,fun D nD nb=>
   ⟨D,BH (is.take 50),rfl,Am _ _ _,trivial,(is.take 50).length,fun i ys σ'=>i≤(is.take 50).length∧σ'=upd σ D (.list (BH (is.take 50)))∧∃js:List Int,ys=BH js∧js.length=i∧∀x∈js,0≤x,⟨!Be _,rfl,[],rfl,rfl,by simp⟩,by rw[N8];exact wd,?_⟩⟩)))) ())
  rintro i ys a1 ⟨hi,rfl,js,rfl,a5,a3⟩;refine⟨hi,_,⟨_,Am _ _ _,rfl⟩,?_⟩;have a6:(is.take 50).length≤50:=by rw[N8];exact wY
  cases hq:(BH (is.take 50))[i]? with
  |some x=>
   obtain⟨n,hn,rfl⟩:∃n,(is.take 50)[i]? =some n∧AV.int n=x:=by
    rw[CK]at hq;cases hz:(is.take 50)[i]? with
    |none=>rw[hz]at hq;cases hq
    |some n=>rw[hz]at hq;exact⟨n,rfl,Ao hq⟩
   have a8:=(BY.mp hn).1;intro Cc;refine CH (Bo B (sc w) Za9 (Ab (AG Ar (Zel (BB (Pu ⋯ ?_))))));refine⟨!a8,rfl,js++[(if n<0 then -n else n).fmod 1000003],by simp,by simp[a5],fun x hx=>?_⟩;rcases CE.mp hx with h|h
   ·exact a3 x h
   ·rw[Ap.mp h];exact Zfz _ ⋯
  |none=>
   have b0:(is.take 50).length≤i:=by have:=Gb.mp hq;rwa [AU]at this
   intro C nC b1;refine A2 ?_;have hC:upd (upd σ D (.list (BH (is.take 50)))) C (.list (BH js)) C=some (.list (BH js)):=Am _ _ _;generalize upd (upd σ D (.list (BH (is.take 50)))) C (.list (BH js))=a1 at*;refine AJ (BR (Bw (BX (Zds B fun H nH a9 H1=>AG Ar (BB (CH (CH (BB (Bo B (di w) gE (Ab (AG Ar (Zdh (l:=C) (is:=js) R.handled (by rw[Au _ _ (by rintro rfl;exact Bh ((hC.symm.trans nH)))];exact hC) fun sm=>Jj (BB (Pu ⋯ ⟨Am _ _ _,?_⟩))))))))))))));rw[show upd (upd a1 H (AO.dictS [])) H (.dictS (Av (Av (Av [] "cells" (.ref C)) "spot" (.int 0)) "stir" (.int ((5+sm).fmod 1021))))=upd a1 H (GI C 0 ((5+sm).fmod 1021)) by
    funext a;by_cases ha:a=H
    ·subst ha;rw[Am,Am];rfl
    ·rw[Au _ _ ha,Au _ _ ha,Au _ _ ha]]
   refine AI (Q0 (a:=5+sm) (m:=1021) (!CZ bu)) fun r hr er=>?_;rw[show((5+sm).fmod 1021)=(r:Int)from er];have a2:C≠H:=by rintro rfl;exact Bh ((hC.symm.trans nH))
   have a0:JX (upd a1 H (GI C 0 r)) H C js 0 r:=⟨Am _ _ _,by rw[Au _ _ a2];exact hC,a3,!ln (AK (AK (Ac a5) hi) a6) rfl,!A6 o0,!A6 eZ hr⟩;generalize upd a1 H (GI C 0 r)=σ2 at*;refine Lg B (NP B (Zce w) ⟨_,.cl (qj w),AC.nil (qO B (R.up rfl) fun L a7 x3 P3 a4=>⟨by simp,?_⟩)⟩ () () () ⋯) ();have X3:At a7 hs0 L (fun zz=>none) H C js:=⟨P3,fun a x e=>(nomatch e),⟨0,r,⟨by rw[x3 H (by rw[a0.h];simp)];exact a0.h,by rw[x3 C (by rw[a0.c];simp)];exact a0.c,a0.ok,a0.sz,a0.q0,a0.q1⟩⟩,fun f=>(by have:=a4 H f;exact Bh ((a0.h.symm.trans this))),fun f=>(by have:=a4 C f;exact Bh ((a0.c.symm.trans this)))⟩;refine FB R.handled (.tup _) rfl (BZ (A2 (BZ (A2 (Dm ?_)))));have r0:∀{y:Str},y≠("hand":Str)→y≠("heap_now":Str)→put (put (put (B8 ["script"] [.ref S]) "cells" (.ref C)) "hand" (.ref H)) "heap_now" (.ref (L .hp)) y=put (B8 ["script"] [.ref S]) "cells" (.ref C) y:=fun h1 h2=>by rw[AP h2,AP h1]
   have r1:put (put (put (B8 ["script"] [.ref S]) "cells" (.ref C)) "hand" (.ref H)) "heap_now" (.ref (L .hp)) "heap_now"=some (.ref (L .hp)):=Ar;have r7:put (put (put (B8 ["script"] [.ref S]) "cells" (.ref C)) "hand" (.ref H)) "heap_now" (.ref (L .hp)) "hand"=some (.ref H):=by rw[AP ⋯];exact Ar
   generalize put (put (put (B8 ["script"] [.ref S]) "cells" (.ref C)) "hand" (.ref H)) "heap_now" (.ref (L .hp))=ρ1 at*;exact sF B (R.deeper _) (Km fr) X3 rfl M r1 r7 q
def Cm(n:Nat)(f:Nat→Nat):Nat:=((B6 n).map f).sum
theorem HG(n:Nat)(f:Nat→Nat):Cm (n+1) f=Cm n f+f n:=by
 unfold Cm;rw[jy,Cw,List.sum_append];exact rfl
theorem LI{n:Nat}{f g:Nat→Nat}(h:∀i<n,f i=g i):Cm n f=Cm n g:=by
 unfold Cm;rw[Dz fun i m=>h i (MH.mp m)]
theorem Rv{n k:Nat}{f g:Nat→Nat}(hk:k<n)(h:∀i<n,i≠k→g i=f i):Cm n g+f k=Cm n f+g k:=by
 induction n with
 |zero=>exact Hi Zbb hk
 |succ n ih=>
  rw[HG,HG];by_cases e:k=n
  ·subst e;rw[LI (f:=g) (g:=f) fun i m=>h i (!Ga m) (!Bp m)];exact BS nw
  ·have:=ih (!Al Wl hk e) fun i m=>h i (!Ga m);have:=h n (!A9 _) (Ne.symm e);exact Zi sL (by assumption) this
theorem XM{n k m:Nat}{f g:Nat→Nat}(hk:k<n)(hg:m<n)(ne:k≠m)(h:∀i<n,i≠k→i≠m→g i=f i):Cm n g+(f k+f m)=Cm n f+(g k+g m):=by
 have a:=Rv (f:=f) (g:=fun i=>if i=k then g k else f i) hk fun i zz hi=>by show(if i=k then _ else _)=_;rw[if_neg hi]
 have b:=Rv (f:=fun i=>if i=k then g k else f i) (g:=g) hg fun i hi hn=>by
  show _=(if i=k then _ else _);by_cases e:i=k
  ·rw[if_pos e,e]
  ·rw[if_neg e];exact h i hi e hn
 rw[if_pos rfl]at a;rw[if_neg (Ne.symm ne)]at b;exact xP xS (by assumption) (by assumption)
theorem wo{n k:Nat}{f:Nat→Nat}(m:k<n):f k≤Cm n f:=by
 induction n with
 |zero=>exact BS lH m
 |succ n ih=>
  rw[HG];by_cases e:k=n
  ·subst e;exact Al m6
  ·have:=ih (!Al Wl m e);exact BS yH this
theorem bP{n:Nat}{f g:Nat→Nat}(h:∀i<n,f i≤g i):Cm n f≤Cm n g:=by
 induction n with
 |zero=>exact A9 _
 |succ n m=>
  rw[HG,HG];have:=m fun i hi=>h i (!Ga hi);have:=h n (!A9 _);exact Cf cO (by assumption) this
theorem ZW(n:Nat)(f g:Nat→Nat):Cm n (fun i=>f i+g i)=Cm n f+Cm n g:=by
 induction n with
 |zero=>rfl
 |succ n m=>rw[HG,HG,HG,m];exact Cf rA
theorem Rs(n:Nat):Cm n (fun zz=>0)=0:=by
 induction n with
 |zero=>rfl
 |succ n m=>rw[HG,m]
theorem tx(n k:Nat):Cm n (fun i=>if i=k then 1 else 0)≤1:=by
 by_cases hk:k<n
 ·have:=Rv (f:=fun zz=>0) (g:=fun i=>if i=k then 1 else 0) hk fun i zz m=>if_neg m;rw[Rs,if_pos rfl]at this;exact Ac this
 ·rw[LI (g:=fun zz=>0) fun i m=>if_neg (!Bp (AK m (EU hk))),Rs];exact ld rfl
theorem lQ(n:Nat):∀(ks:List Nat),Cm n (fun i=>if i∈ks then 1 else 0)≤ks.length:=by
 intro ks
 induction ks with
 |nil=>
  rw[LI (g:=fun zz=>0) fun i zz=>if_neg (by simp),Rs];exact A9 _
 |cons k ks m=>
  have h1:=m;have h2:=tx n k;have h3:Cm n (fun i=>if i∈k::ks then 1 else 0)≤Cm n (fun i=>(if i=k then 1 else 0)+if i∈ks then 1 else 0):=bP fun i zz=>by
   by_cases e:i=k
   ·simp[e]
   ·by_cases e':i∈ks<;>simp[e,e']
  rw[ZW]at h3;simp only[UC];exact Cf rt h1 h2 h3
end
section
variable {c d:HS}
structure C1(c d:HS):Prop where
 eq:c={d with waiting:=c.waiting,marks:=c.marks,backs:=c.backs,abo:=c.abo}
 abo:∀k,AH c.abo k=AH d.abo k
 ndc:(c.abo.map (·.1)).Nodup
 ndd:(d.abo.map (·.1)).Nodup
theorem C1.refl(n:(c.abo.map (·.1)).Nodup):C1 c c:=⟨rfl,fun m=>rfl,n,n⟩
def LH(d:HS)(w:List Nat)(m:List (Nat×List Nat))(b:Int)(a:List (Nat×List Nat)):HS:={d with waiting:=w,marks:=m,backs:=b,abo:=a}
theorem C1.trans(x:C1 c d)(y:C1 d e):C1 c e:=by
 refine⟨?_,fun k=>(x.abo k).trans (y.abo k),x.ndc,y.ndd⟩;have m:=x.eq;have n:=y.eq;rw[n]at m;exact m
theorem C1.ab(x:C1 c d)(i:Nat):c.ab i=d.ab i:=by unfold HS.ab;rw[x.abo]
abbrev B9(c:HS)(i:Nat):Prop:=c.uab[i]? =some i
structure WF(c:HS):Prop where
 n14:c.nodes.length≤14
 uab:c.uab.length=c.nodes.length
 lots:c.lots.length=c.nodes.length
 wts:c.wts.length=c.nodes.length
 dps:c.dps.length=c.nodes.length
 nums:c.nums=c.nodes.zipIdx
 dup:c.nodes.Nodup
 ops:∀nd∈c.nodes,Cx nd.1
 kid:∀(n:Nat)(nd:Nd),c.nodes[n]? =some nd→nd.2.length≤2∧∀k∈nd.2,k<n
 U:Bz c.uab
 ndA:(c.abo.map (·.1)).Nodup
 abo:∀k,AH c.abo k≠none↔B9 c k
 asum:Cm c.nodes.length (fun i=>(c.ab i).length)≤2*c.nodes.length
 abl:∀i,∀n∈c.ab i,n<c.nodes.length
 kn:∀k n,AH c.known k=some n→n<c.nodes.length
 roots:Cm c.nodes.length (fun i=>if B9 c i then 1 else 0)+c.merged.length=c.nodes.length
 fr:c.forest.length=c.merged.length
 ch:c.changes.length=c.known.length+c.edges.length+c.made
 lsum:Cm c.nodes.length (fun i=>if B9 c i then(c.lots[i]?.getD []).length else 0)≤c.nodes.length
 lone:∀(i:Nat)(l:List Nat),c.lots[i]? =some l→l.length≤c.nodes.length
 pl:∀e∈c.edges,HB e
 made:c.made=c.nodes.length
theorem WF.same(W:WF c)(x:C1 d c):WF d:=by
 have h1:∀k,AH d.abo k≠none↔B9 c k:=fun k=>by rw[x.abo];exact W.abo k
 have h2:Cm c.nodes.length (fun i=>(d.ab i).length)≤2*c.nodes.length:=by
  rw[LI fun i zz=>congrArg _ (x.ab i)];exact W.asum
 have h4:∀i,∀n∈d.ab i,n<c.nodes.length:=fun i=>by rw[x.ab];exact W.abl i
 have key:∀w m b a,(a.map (·.1)).Nodup→(∀k,AH a k≠none↔B9 c k)→Cm c.nodes.length (fun i=>((LH c w m b a).ab i).length)≤2*c.nodes.length→(∀i,∀n∈(LH c w m b a).ab i,n<c.nodes.length)→WF (LH c w m b a):=fun w m b a h3 h1 h2 h4=>
  ⟨W.n14,W.uab,W.lots,W.wts,W.dps,W.nums,W.dup,W.ops,W.kid,W.U,h3,h1,h2,h4,W.kn,W.roots,W.fr,W.ch,W.lsum,W.lone,W.pl,W.made⟩
 exact(congrArg WF x.eq).mpr (key d.waiting d.marks d.backs d.abo x.ndc h1 h2 h4)
theorem XT{n:Nat}:∀{l:List Nat},l.Nodup→(∀x∈l,x<n)→l.length≤n:=by
 induction n with
 |zero=>
  intro l _ h;cases l with
  |nil=>exact A9 _
  |cons x l=>exact absurd (h x (.head _)) (Lq _)
 |succ n ih=>
  intro l nd h;have:=ih (nd.erase n) fun x m=>by
   have:=nd.mem_erase_iff.mp m;exact Nat.lt_of_le_of_ne (Nat.le_of_lt_succ (h x this.2)) this.1
  rw[List.length_erase]at this;split at this
  ·exact Nat.le_add_of_sub_le this
  ·exact Ga this
theorem RM{K V:Type}[DecidableEq K]{g:List (K×V)}{k:K}(h:k∈g.map (·.1)):AH g k≠none:=fun e=>Mv e h
theorem WF.root_lt(W:WF c)(h:B9 c i):i<c.nodes.length:=by rw[←W.uab];exact(BY.mp h).1
theorem WF.ab_le(W:WF c)(i:Nat):(c.ab i).length≤28:=by
 by_cases h:B9 c i
 ·have m:=wo (f:=fun i=>(c.ab i).length) (W.root_lt h);have:=W.asum;have:=W.n14;have m:(c.ab i).length≤_:=m;exact BS l7 (by assumption) (by assumption) this
 ·have:AH c.abo i=none:=by
   cases n:AH c.abo i with
   |none=>rfl
   |some l=>exact absurd ((W.abo i).mp (by rw[n];exact Ag _)) h
  unfold HS.ab;rw[this];exact Be _
theorem WF.merged(W:WF c):c.merged.length≤c.nodes.length:=by have:=W.roots;exact BS zV this
theorem WF.known_le(W:WF c)(k:c.known.length+c.waiting.length≤c.nodes.length+28*c.merged.length):c.known.length+c.waiting.length≤406:=by
 have:=W.merged;have:=W.n14;exact Cf yF k (by assumption) this
theorem WF.sane(W:WF c)(kw:c.known.length+c.waiting.length≤c.nodes.length+28*c.merged.length)(ed:c.edges.length≤100):D0 c:=by
 have hk:=W.known_le kw;have m:=W.n14;have hm:=W.merged;have hu:=W.uab;refine⟨W.U,⟨by rw[W.lots,W.uab],fun l hl=>?_,!ln (AK hm m) rfl⟩,⟨!ln m rfl,W.wts,W.dps,by rw[W.nums,Et]⟩,hu.symm,fun n nd h=>⟨(W.kid n nd h).1,fun k hk=>?_⟩,fun i hi=>?_,fun k n h=>by rw[hu];exact W.kn k n h,!Al kh hk,?_,!ln ed rfl,by rw[W.fr];exact ln (AK hm m) rfl,!Al vh hk,?_⟩
 ·refine AY (US hl) fun i hi=>?_;have:=W.lone i l hi;exact ln (AK this m) rfl
 ·have:=(W.kid n nd h).2 k hk;have:=(BY.mp h).1;exact Cf sf hu (by assumption) this
 ·refine AY (ER.mp ((W.abo i).mpr hi)) fun l hl=>?_;refine⟨l,hl,?_⟩;have:=W.ab_le i;unfold HS.ab at this;rw[hl]at this;exact AK this (!ld rfl)
 ·rw[W.ch,W.made];exact Hi Zb8 kw ed m hm
 ·have:=XT W.ndA (n:=c.nodes.length) fun x hx=>W.root_lt ((W.abo x).mp (RM hx));rw[AU]at this;exact ln (AK this m) rfl
theorem Pg{ab:List Nat}{i:Nat}(h:ab.length≤i):root ab i=i:=by
 rw[S7,if_neg];rintro⟨x,e,_⟩;have:=(BY.mp e).1;exact EP _ (AK (CG h) this)
theorem ak(U:Bz ab)(i:Nat):root (ab++[ab.length]) i=root ab i:=by
 induction i using Yt with
 |ind i ih=>
  by_cases m:i<ab.length
  ·have e:ab[i]? =some ab[i]:=Dy m;have n:(ab++[ab.length])[i]? =some ab[i]:=by rw[Es m];exact e
   have hl:=U.le i _ e;by_cases h:ab[i]<i
   ·rw[LB e h,LB n h];exact ih _ h
   ·have h:ab[i]=i:=by exact Ep hl (EU h)
    rw[h]at e n;rw[HA e,HA n]
  ·rw[Pg (ab:=ab) (!EU m)];by_cases h:i=ab.length
   ·subst h;exact HA (by simp)
   ·exact Pg (by simp;exact Al uq m h)
theorem yf(U:Bz ab)(hk:ab[k]? =some k)(hg:ab[g]? =some g)(l:k<g)(i:Nat):root (ab.set g k) i=if root ab i=g then k else root ab i:=by
 have gl:=(BY.mp hg).1;have ek:(ab.set g k)[k]? =some k:=by rw[H6 (!HW l)];exact hk
 induction i using Yt with
 |ind i ih=>
  by_cases m:i<ab.length
  ·by_cases n:i=g
   ·subst n;rw[HA hg,if_pos rfl,LB (x:=k) (by rw[Jv gl]) l,HA ek]
   ·have e:ab[i]? =some ab[i]:=Dy m;have e':(ab.set g k)[i]? =some ab[i]:=by rw[H6 (Ne.symm n)];exact e
    have hl:=U.le i _ e;by_cases h:ab[i]<i
    ·rw[LB e h,LB e' h];exact ih _ h
    ·have h:ab[i]=i:=by exact Ep hl (EU h)
     rw[h]at e e';rw[HA e,HA e',if_neg n]
  ·rw[Pg (ab:=ab) (!Al dC m),Pg (by rw[Ir];exact Al dC m),if_neg (!BS qu gl m)]
theorem Bz.union(U:Bz ab)(l:k<g):Bz (ab.set g k):=by
 refine⟨fun i x e=>?_,by rw[Ir];exact U.sz⟩;by_cases h:g=i
 ·subst h;have m:g<ab.length:=by have:=(BY.mp e).1;rwa [Ir]at this
  obtain rfl:=Ao (((Jv m).symm.trans e));exact Cy l
 ·rw[H6 h]at e;exact U.le i x e
def kn(c:HS)(n:Nat):HS:={c with known:=c.known++[(c.canon n,n)],changes:=c.changes++[.known (c.canon n)]}
theorem WF.kn1(W:WF c)(hn:n<c.nodes.length):WF (Internal.kn c n):=by
 refine⟨W.n14,W.uab,W.lots,W.wts,W.dps,W.nums,W.dup,W.ops,W.kid,W.U,W.ndA,W.abo,W.asum,W.abl,fun k m h=>?_,W.roots,W.fr,?_,W.lsum,W.lone,W.pl,W.made⟩
 ·change AH (c.known++_) k=_ at h;rw[Hw]at h;cases hq:AH c.known k with
  |some y=>rw[hq]at h;cases h;exact W.kn k _ hq
  |none=>
   rw[hq]at h;split at h
   ·obtain rfl:=Ao h;exact hn
   ·exact As h
 ·show(c.changes++_).length=(c.known++_).length+_+_;have:=W.ch;simp only[BJ,DD];show _=_+c.edges.length+c.made;exact Cf y7 this
def jn(c:HS)(k g a b:Nat)(r:AV):HS:={HI c k g with changes:=c.changes++[.edge k (c.ab k).length g (c.ab g)],edges:=c.edges++[.tup [.int a,.int b,r]],forest:=c.forest++[c.edges.length],waiting:=c.waiting++c.ab g,abo:=Av (BP c.abo g) k (c.ab k++c.ab g)}
theorem Y2(h:c.find a≠c.find b):c.join a b r=jn c (min (c.find a) (c.find b)) (max (c.find a) (c.find b)) a b r:=by
 unfold HS.join jn;rw[if_neg h]
structure LK(c:HS)(k g:Nat):Prop where
 hk:B9 c k
 hg:B9 c g
 lt:k<g
variable {k g a b:Nat} {r:AV}
theorem WF.two(W:WF c)(n:a<c.nodes.length)(hb:b<c.nodes.length)(h:c.find a≠c.find b):LK c (min (c.find a) (c.find b)) (max (c.find a) (c.find b)):=by
 refine AL (Wc c W.U (a:=a) (b:=b) (by rw[W.uab];exact n) (by rw[W.uab];exact hb)) fun h1 m=>?_;exact⟨h1,m,!gt h⟩
theorem Ky(U:Bz c.uab)(T:LK c k g)(i:Nat):(jn c k g a b r).find i=if c.find i=g then k else c.find i:=yf U T.hk T.hg T.lt i
theorem VF(i:Nat):AH (jn c k g a b r).abo i=if i=k then some (c.ab k++c.ab g)else if i=g then none else AH c.abo i:=by
 show AH (Av (BP c.abo g) k _) i=_;rw[Dt,Ry]
theorem OE(i:Nat):(jn c k g a b r).ab i=if i=k then c.ab k++c.ab g else if i=g then[]else c.ab i:=by
 unfold HS.ab;rw[VF];split
 ·rfl
 ·split<;>rfl
theorem PG(T:LK c k g)(i:Nat):B9 (jn c k g a b r) i↔B9 c i∧i≠g:=by
 have m:=(BY.mp T.hg).1;have l:=T.lt;show(c.uab.set g k)[i]? =some i↔_;by_cases h:g=i
 ·subst h;rw[Jv m];simp;exact Bp l
 ·rw[H6 h];exact⟨fun e=>⟨e,Ne.symm h⟩,fun e=>e.1⟩
theorem Za6(n:(c.abo.map (·.1)).Nodup):((jn c k g a b r).abo.map (·.1)).Nodup:=by
 show((Av (BP c.abo g) k _).map (·.1)).Nodup;have h:((BP c.abo g).map (·.1)).Nodup:=(Yz.map _).nodup n;rw[Q5];split
 ·exact h
 ·rename_i q;have:=Mv (by simpa using q);rw[Nx];exact⟨h,by simp,fun x hx y m e=>by rw[Ap]at m;subst m;subst e;exact this hx⟩
def We(c:HS):Prop:=∀{k:Nat}{g:Nat}{a:Nat}{b:Nat}{r:AV}(W:WF c)(T:LK c k g)(m:HB (.tup [.int a,.int b,r])),WF (jn c k g a b r)
def Y9:HS→Prop:=fun t=>We t
def Zao:=zE Y9 De
def BK:=Zao
theorem Zah:We BK:=fun{k}{g}{a}{b}{r} W T hr=>by
 have hl:=T.lt;have a0:=W.root_lt T.hg;have a2:=W.root_lt T.hk;have s1:=XM (f:=fun i=>(BK.ab i).length) (g:=fun i=>((jn BK k g a b r).ab i).length) a2 a0 (!Bp hl) fun i zz m h2=>by
  show((jn BK k g a b r).ab i).length=_;rw[OE,if_neg m,if_neg h2]
 have s2:=Rv (f:=fun i=>if B9 BK i then 1 else 0) (g:=fun i=>if B9 (jn BK k g a b r) i then 1 else 0) a0 fun i zz m=>by
  have:=PG (a:=a) (b:=b) (r:=r) T i;by_cases h:B9 BK i
  ·rw[if_pos h,if_pos (this.mpr ⟨h,m⟩)]
  ·rw[if_neg h,if_neg fun q=>h (this.mp q).1]
 have s3:=XM (f:=fun i=>if B9 BK i then(BK.lots[i]?.getD []).length else 0) (g:=fun i=>if B9 (jn BK k g a b r) i then((jn BK k g a b r).lots[i]?.getD []).length else 0) a2 a0 (!Bp hl) fun i zz m h2=>by
  have:=PG (a:=a) (b:=b) (r:=r) T i;have e:(jn BK k g a b r).lots[i]? =BK.lots[i]? :=by show(BK.lots.set k _)[i]? =_;rw[H6 (Ne.symm m)]
  by_cases h:B9 BK i
  ·rw[if_pos h,if_pos (this.mpr ⟨h,h2⟩),e]
  ·rw[if_neg h,if_neg fun q=>h (this.mp q).1]
 have ek:(jn BK k g a b r).lots[k]? =some ((BK.lots[k]?.getD [])++(BK.lots[g]?.getD [])):=by
  show(BK.lots.set k _)[k]? =_;rw[Jv (by rw[W.lots];exact a2)]
 have rk:B9 (jn BK k g a b r) k:=(PG T k).mpr ⟨T.hk,!Bp hl⟩;have rg:¬B9 (jn BK k g a b r) g:=fun q=>((PG T g).mp q).2 rfl;have s1:_+((BK.ab k).length+(BK.ab g).length)=_+(((jn BK k g a b r).ab k).length+((jn BK k g a b r).ab g).length):=s1;rw[OE,OE,if_pos rfl,if_neg (!HW hl),if_pos rfl,BJ]at s1;have s2:_+(if B9 BK g then 1 else 0)=_+(if B9 (jn BK k g a b r) g then 1 else 0):=s2;rw[if_pos T.hg,if_neg rg]at s2;have s3:_+((if B9 BK k then(BK.lots[k]?.getD []).length else 0)+(if B9 BK g then(BK.lots[g]?.getD []).length else 0))=_+((if B9 (jn BK k g a b r) k then((jn BK k g a b r).lots[k]?.getD []).length else 0)+(if B9 (jn BK k g a b r) g then((jn BK k g a b r).lots[g]?.getD []).length else 0)):=s3;rw[if_pos T.hk,if_pos T.hg,if_pos rk,if_neg rg,ek,j8,BJ]at s3;have a3:=W.asum;have a1:=W.roots;have a4:=W.lsum;refine⟨W.n14,by show(BK.uab.set g k).length=_;rw[Ir];exact W.uab,by show(BK.lots.set k _).length=_;rw[Ir];exact W.lots,W.wts,W.dps,W.nums,W.dup,W.ops,W.kid,W.U.union hl,Za6 W.ndA,fun i=>?_,?_,fun i n hn=>?_,W.kn,?_,?_,?_,?_,?_,?_,W.made⟩
 ·rw[VF,PG T];by_cases m:i=k
  ·subst m;rw[if_pos rfl];exact⟨fun zz=>⟨T.hk,!Bp hl⟩,fun zz=>!Ag _⟩
  ·rw[if_neg m];by_cases h2:i=g
   ·rw[if_pos h2];exact⟨fun h=>absurd rfl h,fun h=>absurd h2 h.2⟩
   ·rw[if_neg h2];exact⟨fun h=>⟨(W.abo i).mp h,h2⟩,fun h=>(W.abo i).mpr h.1⟩
 ·show Cm BK.nodes.length _≤2*BK.nodes.length;simp only[List.length_nil]at s1;exact Hi wu s1 a3
 ·rw[OE]at hn;show n<BK.nodes.length;split at hn
  ·exact(CE.mp hn).elim (W.abl k n) (W.abl g n)
  ·split at hn
   ·cases hn
   ·exact W.abl i n hn
 ·show Cm BK.nodes.length _+(BK.merged++[(k,g)]).length=BK.nodes.length;rw[BJ,DD];exact Cf w8 s2 a1
 ·show(BK.forest++_).length=(BK.merged++_).length;rw[BJ,BJ,W.fr];rfl
 ·show(BK.changes++_).length=BK.known.length+(BK.edges++_).length+BK.made;have:=W.ch;rw[BJ,BJ,DD,DD];exact Cf aM this
 ·show Cm BK.nodes.length _≤BK.nodes.length;exact Hi tC s3 a4
 ·intro i l h;show l.length≤BK.nodes.length;by_cases m:i=k
  ·subst m;obtain rfl:=Ao ((ek.symm.trans h));have:=XM (f:=fun zz=>0) (g:=fun j=>if j=i then(BK.lots[i]?.getD []).length else if j=g then(BK.lots[g]?.getD []).length else 0) a2 a0 (!Bp hl) fun j zz m h2=>by
    show(if _ then _ else _)=_;rw[if_neg m,if_neg h2]
   have q:=bP (n:=BK.nodes.length) (f:=fun j=>if j=i then(BK.lots[i]?.getD []).length else if j=g then(BK.lots[g]?.getD []).length else 0) (g:=fun i=>if B9 BK i then(BK.lots[i]?.getD []).length else 0) fun j zz=>by
    show(if _ then _ else _)≤(if _ then _ else _);by_cases m:j=i
    ·subst m;rw[if_pos rfl,if_pos T.hk];exact A9 _
    ·rw[if_neg m];by_cases h2:j=g
     ·subst h2;rw[if_pos rfl,if_pos T.hg];exact A9 _
     ·rw[if_neg h2];exact Be _
   rw[Rs,if_pos rfl,if_neg (!HW hl),if_pos rfl]at this;rw[BJ];exact Hi Zaf a4 this q
  ·have e:(jn BK k g a b r).lots[i]? =BK.lots[i]? :=by show(BK.lots.set k _)[i]? =_;rw[H6 (Ne.symm m)]
   rw[e]at h;exact W.lone i l h
 ·intro e he;rcases CE.mp he with h|h
  ·exact W.pl e h
  ·rw[Ap.mp h];exact hr
theorem WF.jn1{c}:We c:=@zF _ Y9 De @Zah c
def lj(c:HS)(k a b:Nat)(r:AV):HS:={c with changes:=c.changes++[.loose k (c.ab k).length k],edges:=c.edges++[.tup [.int a,.int b,r]]}
theorem wb(h:c.find a=c.find b):c.join a b r=lj c (c.find a) a b r:=by
 unfold HS.join lj;rw[if_pos h,←h,Nat.min_self]
theorem WF.lj1(W:WF c)(n:HB (.tup [.int a,.int b,r])):WF (lj c k a b r):=by
 refine⟨W.n14,W.uab,W.lots,W.wts,W.dps,W.nums,W.dup,W.ops,W.kid,W.U,W.ndA,W.abo,W.asum,W.abl,W.kn,W.roots,W.fr,?_,W.lsum,W.lone,?_,W.made⟩
 ·show(c.changes++_).length=c.known.length+(c.edges++_).length+c.made;have:=W.ch;rw[BJ,BJ,DD,DD];exact Cf aM this
 ·intro e m;rcases CE.mp m with h|h
  ·exact W.pl e h
  ·rw[Ap.mp h];exact n
end
section
variable {c d:HS}
theorem tX:∀{ks:List Nat}{ab:List (Nat×List Nat)}{j:Nat},ks.Nodup→AH (ks.foldl (Eg n) ab) j=if j∈ks then some ((AH ab j).getD []++[n])else AH ab j:=by
 intro ks
 induction ks with
 |nil=>
  intro ab j _;exact rfl
 |cons k ks m=>
  intro ab j nd;have nd:=FU.mp nd;rw[MI,m nd.2,Vn];by_cases h:j=k
  ·subst h;rw[if_pos rfl,if_neg nd.1,if_pos (Dq ..)]
  ·rw[if_neg h];by_cases h':j∈ks
   ·rw[if_pos h',if_pos (Tw _ h')]
   ·rw[if_neg h',if_neg (by rw[A7,not_or];exact⟨h,h'⟩)]
theorem lh:∀{ks:List Nat}{ab:List (Nat×List Nat)}{j:Nat},ks.Nodup→AH (ks.foldl C3 ab) j=if j∈ks then some ((AH ab j).getD []).dropLast else AH ab j:=by
 intro ks
 induction ks with
 |nil=>
  intro ab j _;exact rfl
 |cons k ks m=>
  intro ab j nd;have nd:=FU.mp nd;rw[MI,m nd.2];unfold C3;rw[Dt];by_cases h:j=k
  ·subst h;rw[if_pos rfl,if_neg nd.1,if_pos (Dq ..)]
  ·rw[if_neg h];by_cases h':j∈ks
   ·rw[if_pos h',if_pos (Tw _ h')]
   ·rw[if_neg h',if_neg (by rw[A7,not_or];exact⟨h,h'⟩)]
theorem TI{K V:Type}[DecidableEq K]{g:List (K×V)}{k:K}{v:V}(n:(g.map (·.1)).Nodup):((Av g k v).map (·.1)).Nodup:=by
 rw[Q5];split
 ·exact n
 ·rename_i q;have:=Mv (by simpa using q);rw[Nx];exact⟨n,by simp,fun x hx y m e=>by rw[Ap]at m;subst m;subst e;exact this hx⟩
theorem ZO(hf:∀ab k,(ab.map (·.1)).Nodup→((f ab k).map (·.1)).Nodup):∀{ks:List Nat}{ab:List (Nat×List Nat)},(ab.map (·.1)).Nodup→((ks.foldl f ab).map (·.1)).Nodup:=by
 intro ks
 induction ks with
 |nil=>
  intro ab n;exact n
 |cons k ks m=>
  intro ab n;exact m (hf ab k n)
theorem Y5(xs:List Nat):(ss xs).Nodup:=(Om xs).imp fun h=>Bp h
def CM(c:HS)(nd:Nd)(w d:Int):HS:={Fd c nd w d with changes:=c.changes++[.made c.nodes.length],made:=c.nodes.length+1}
structure KH(c:HS)(nd:Nd):Prop where
 op:Cx nd.1
 two:nd.2.length≤2
 lt:∀k∈nd.2,k<c.nodes.length
 new:nd∉c.nodes
 n:c.nodes.length<14
variable {nd:Nd} {w x:Int}
abbrev Fg(c:HS)(nd:Nd):List Nat:=ss (nd.2.map c.find)
theorem J6(W:WF c)(i:Nat):(CM c nd w x).find i=c.find i:=ak W.U i
theorem My(W:WF c)(Q:KH c nd)(h:j∈Fg c nd):B9 c j∧j<c.nodes.length:=by
 refine AI (BD.mp (Mb.mp h)) fun k n m=>?_;subst m;have:=Q.lt k n;have r:B9 c (c.find k):=NQ W.U (by rw[W.uab];exact this);exact⟨r,W.root_lt r⟩
theorem eG(W:WF c):(CM c nd w x).abo=(Fg c nd).foldl (Eg c.nodes.length) (c.abo++[(c.nodes.length,[])]):=by
 show(ss (nd.2.map (root (c.uab++[c.uab.length])))).foldl (Eg c.uab.length) (c.abo++[(c.uab.length,[])])=_;rw[Dz fun i m=>ak W.U i,W.uab];rfl
theorem WF.abo_top(W:WF c):AH c.abo c.nodes.length=none:=by
 cases m:AH c.abo c.nodes.length with
 |none=>rfl
 |some l=>have:=W.root_lt ((W.abo _).mp (by rw[m];exact Ag _));exact absurd this (EP _)
theorem XU(W:WF c)(Q:KH c nd)(j:Nat):AH (CM c nd w x).abo j=if j∈Fg c nd then some (c.ab j++[c.nodes.length])else if j=c.nodes.length then some []else AH c.abo j:=by
 rw[eG W,tX (Y5 _),Hw];by_cases h:j∈Fg c nd
 ·refine AL (My W Q h) fun n m=>?_;rw[if_pos h,if_pos h,if_neg (!Bp m),Yx];rfl
 ·rw[if_neg h,if_neg h];by_cases e:j=c.nodes.length
  ·subst e;rw[if_pos rfl,if_pos rfl,W.abo_top];rfl
  ·rw[if_neg e,if_neg e,Yx]
theorem SE(W:WF c)(Q:KH c nd)(j:Nat):(CM c nd w x).ab j=if j∈Fg c nd then c.ab j++[c.nodes.length]else c.ab j:=by
 unfold HS.ab;rw[XU W Q];by_cases h:j∈Fg c nd
 ·rw[if_pos h,if_pos h];rfl
 ·rw[if_neg h,if_neg h];by_cases e:j=c.nodes.length
  ·subst e;rw[if_pos rfl,W.abo_top];rfl
  ·rw[if_neg e]
theorem RQ{xs:List α}{x y:α}{i:Nat}(h:(xs++[x])[i]? =some y):(i<xs.length∧xs[i]? =some y)∨(i=xs.length∧y=x):=by
 by_cases m:i<xs.length
 ·rw[Es m]at h;exact .inl ⟨m,h⟩
 ·have:=(BY.mp h).1;have e:i=xs.length:=by simp at this;exact Al gj m this
  subst e;simp at h;exact .inr ⟨rfl,h.symm⟩
theorem VT(W:WF c)(i:Nat):B9 (CM c nd w x) i↔B9 c i∨i=c.nodes.length:=by
 show(c.uab++[c.uab.length])[i]? =some i↔_;rw[←W.uab];constructor
 ·intro h;rcases RQ h with h|h
  ·exact .inl h.2
  ·exact .inr h.1
 ·rintro(h|rfl)
  ·rw[Es (BY.mp h).1];exact h
  ·simp
def VL(c:HS)(nd:Nd)(w:Int)(x:Int):Prop:=∀(W:WF c)(Q:KH c nd),WF (CM c nd w x)
def cp:(HS×Nd)×(Int×Int)→Prop:=fun t=>VL t.1.1 t.1.2 t.2.1 t.2.2
def Qr:=zE cp ((De,BV),(0,0))
def Bf:=Qr.1.1
def Ew:=Qr.1.2
def J4:=Qr.2.1
def KC:=Qr.2.2
theorem qT:VL Bf Ew J4 KC:=fun W Q=>by
 have hu:=W.uab;have hn:=Q.n;have hN:(CM Bf Ew J4 KC).nodes.length=Bf.nodes.length+1:=by show(Bf.nodes++[Ew]).length=_;simp
 have rN:B9 (CM Bf Ew J4 KC) Bf.nodes.length:=(VT W _).mpr (.inr rfl);have rO:∀i<Bf.nodes.length,(B9 (CM Bf Ew J4 KC) i↔B9 Bf i):=fun i hi=>(VT W i).trans ⟨fun h=>h.elim id fun h=>absurd h (!Bp hi),.inl⟩;have lN:(CM Bf Ew J4 KC).lots[Bf.nodes.length]? =some [Bf.nodes.length]:=by show(Bf.lots++[[Bf.lots.length]])[_]? =_;rw[←W.lots];simp
 have lO:∀i<Bf.nodes.length,(CM Bf Ew J4 KC).lots[i]? =Bf.lots[i]? :=fun i hi=>by show(Bf.lots++[[Bf.lots.length]])[_]? =_;rw[Es (by rw[W.lots];exact hi)]
 have hs:(Fg Bf Ew).length≤2:=AK XD (by rw[AU];exact Q.two);refine⟨!AK (Ac hN) hn,?_,?_,?_,?_,?_,?_,fun m hm=>?_,fun n m h=>?_,W.U.snoc (!ln (AK (Ac hu) (Cy hn)) rfl),?_,fun i=>?_,?_,fun i n h=>?_,fun k n h=>?_,?_,W.fr,?_,?_,fun i l h=>?_,W.pl,?_⟩
 ·rw[hN];show(Bf.uab++_).length=_;simp[hu]
 ·rw[hN];show(Bf.lots++_).length=_;simp[W.lots]
 ·rw[hN];show(Bf.wts++_).length=_;simp[W.wts]
 ·rw[hN];show(Bf.dps++_).length=_;simp[W.dps]
 ·show Bf.nums++[(Ew,Bf.nodes.length)]=(Bf.nodes++[Ew]).zipIdx;rw[OA,W.nums];simp
 ·show(Bf.nodes++[Ew]).Nodup;rw[Nx];exact⟨W.dup,by simp,fun y hy z hz e=>by rw[Ap]at hz;subst hz;subst e;exact Q.new hy⟩
 ·rcases CE.mp hm with h|h
  ·exact W.ops m h
  ·rw[Ap.mp h];exact Q.op
 ·rcases RQ h with h|⟨rfl,rfl⟩
  ·exact W.kid n m h.2
  ·exact⟨Q.two,Q.lt⟩
 ·rw[eG W];refine ZO (fun ab k n=>TI n) ?_;rw[Cw,Nx];refine⟨W.ndA,by simp,fun y hy z hz e=>?_⟩;simp at hz;subst hz;subst e;exact RM hy W.abo_top
 ·rw[XU W Q,VT W];by_cases h:i∈Fg Bf Ew
  ·rw[if_pos h];exact⟨fun zz=>.inl (My W Q h).1,fun zz=>!Ag _⟩
  ·rw[if_neg h];by_cases e:i=Bf.nodes.length
   ·rw[if_pos e];exact⟨fun zz=>.inr e,fun zz=>!Ag _⟩
   ·rw[if_neg e];exact⟨fun h=>.inl ((W.abo i).mp h),fun h=>h.elim (W.abo i).mpr fun h=>absurd h e⟩
 ·rw[hN,HG];have h1:=W.asum;have h2:((CM Bf Ew J4 KC).ab Bf.nodes.length).length=0:=by
   rw[SE W Q,if_neg fun h=>by have:=(My W Q h).2;exact A6 ej this];unfold HS.ab;rw[W.abo_top];rfl
  have h3:Cm Bf.nodes.length (fun i=>((CM Bf Ew J4 KC).ab i).length)=Cm Bf.nodes.length (fun i=>(Bf.ab i).length+if i∈Fg Bf Ew then 1 else 0):=LI fun i zz=>by
   rw[SE W Q];by_cases h:i∈Fg Bf Ew
   ·rw[if_pos h,if_pos h];simp
   ·rw[if_neg h,if_neg h];rfl
  have h4:=lQ Bf.nodes.length (Fg Bf Ew);rw[ZW]at h3;exact Zi sr hs h1 h2 h3 h4
 ·rw[hN];rw[SE W Q]at h;split at h
  ·rcases CE.mp h with h|h
   ·exact H5 (W.abl i n h)
   ·rw[Ap.mp h];exact A9 _
  ·exact H5 (W.abl i n h)
 ·rw[hN];exact H5 (W.kn k n h)
 ·rw[hN,HG,if_pos rN,LI (g:=fun i=>if B9 Bf i then 1 else 0) fun i hi=>by
   by_cases h:B9 Bf i
   ·rw[if_pos h,if_pos ((rO i hi).mpr h)]
   ·rw[if_neg h,if_neg fun q=>h ((rO i hi).mp q)]]
  have:=W.roots;show _+Bf.merged.length=_;exact BS zR this
 ·show(Bf.changes++_).length=Bf.known.length+Bf.edges.length+(Bf.nodes.length+1);have h1:=W.ch;have h2:=W.made;rw[BJ,DD];exact Hi vq h1 h2
 ·rw[hN,HG,if_pos rN,lN,LI (g:=fun i=>if B9 Bf i then(Bf.lots[i]?.getD []).length else 0) fun i hi=>by
   by_cases h:B9 Bf i
   ·rw[if_pos h,if_pos ((rO i hi).mpr h),lO i hi]
   ·rw[if_neg h,if_neg fun q=>h ((rO i hi).mp q)]]
  have:=W.lsum;simp only[j8,DD];exact CG this
 ·rw[hN];rcases RQ (show(Bf.lots++[[Bf.lots.length]])[i]? =some l from h)with h|⟨_,rfl⟩
  ·have:=W.lone i l h.2;exact Ga this
  ·exact Cz _
 ·rw[hN];rfl
theorem WF.mk1{c nd w x}:VL c nd w x:=@zF _ cp _ @qT ((c,nd),(w,x))
end
section
variable {c d e:HS}
structure KU(c d:HS):Prop where
 len:c.changes.length=d.changes.length+1
 und:∀c2,C1 c2 c→∃d2,KQ c2 d2∧C1 d2 d∧d2.marks=c2.marks
theorem C1.elim{P:HS→Prop}(x:C1 c d)(h:∀ab n ms m,(∀k,AH ab k=AH d.abo k)→(ab.map (·.1)).Nodup→P {d with waiting:=n,marks:=ms,backs:=m,abo:=ab}):P c:=by
 have:=h c.abo c.waiting c.marks c.backs x.abo x.ndc;rw[←x.eq]at this;exact this
theorem KU.of(l:c.changes.length=d.changes.length+1)(h:∀ab ws ms bs,(∀k,AH ab k=AH c.abo k)→(ab.map (·.1)).Nodup→∃m,KQ {c with waiting:=ws,marks:=ms,backs:=bs,abo:=ab} m∧C1 m d∧m.marks=ms):KU c d:=
 ⟨l,fun n x=>x.elim (P:=fun n=>∃m,KQ n m∧C1 m d∧m.marks=n.marks) h⟩
theorem fL{K V:Type}[DecidableEq K]{xs:List (K×V)}{k:K}{v:V}(h:AH xs k=none):BP (xs++[(k,v)]) k=xs:=by
 unfold BP;rw(config:={}) [jK,Zf6.mpr fun p hp=>?_]
 ·simp
 ·have:=Mv h;rw(config:={}) [decide_eq_true_eq];rintro rfl;exact this (Zg3 hp)
theorem pi(n:(c.abo.map (·.1)).Nodup)(h:AH c.known (c.canon i)=none)(z:c.known.length≤900):KU (kn c i) c:=by
 refine .of (by show(c.changes++_).length=_;simp) fun ab ws ms bs m nd=>?_;refine⟨_,.known (chs:=c.changes) (k:=c.canon i) rfl ?_ ?_,⟨?_,m,nd,n⟩,rfl⟩
 ·show(AH (c.known++[(c.canon i,i)]) (c.canon i)).isSome=true;rw[Hw,h];simp
 ·show(c.known++_).length≤_;simp;exact ln z rfl
 ·show HS.mk _ _ _ _ _ _ _ _ _ (BP (c.known++[(c.canon i,i)]) (c.canon i)) _ _ _ _ _ _=_;rw[fL h];rfl
theorem zZ(n:(c.abo.map (·.1)).Nodup)(z:c.edges.length≤900):KU (lj c k a b r) c:=
 .of (by show(c.changes++_).length=_;simp) fun ab ws ms bs m nd=>⟨_,.loose (chs:=c.changes) (es:=c.edges) rfl rfl (!ln z rfl),⟨rfl,m,nd,n⟩,rfl⟩
def WI(c:HS)(k:Nat)(g:Nat)(a:Nat)(b:Nat)(r:AV):Prop:=∀(W:WF c)(T:LK c k g)(z:c.edges.length≤900),KU (jn c k g a b r) c
def aV:((HS×Nat)×Nat)×((Nat×Nat)×AV)→Prop:=fun t=>WI t.1.1.1 t.1.1.2 t.1.2 t.2.1.1 t.2.1.2 t.2.2
def Mr:=zE aV (((De,0),0),((0,0),.none))
def Bl:=Mr.1.1.1
def CT:=Mr.1.1.2
def Cv:=Mr.1.2
def S6:=Mr.2.1.1
def TC:=Mr.2.1.2
def Sn:=Mr.2.2
theorem s8:WI Bl CT Cv S6 TC Sn:=fun W T z=>by
 refine .of (by show(Bl.changes++_).length=_;simp) fun ab ws ms bs ha nd=>?_;have hl:=T.lt;have a4:=W.root_lt T.hg;have m:=W.root_lt T.hk;have hn:=W.n14;obtain⟨lk,a1⟩:∃l,Bl.lots[CT]? =some l:=⟨_,Dy (by rw[W.lots];exact m)⟩;obtain⟨lg,a3⟩:∃l,Bl.lots[Cv]? =some l:=⟨_,Dy (by rw[W.lots];exact a4)⟩;have a2:∀i,AH ab i=if i=CT then some (Bl.ab CT++Bl.ab Cv)else if i=Cv then none else AH Bl.abo i:=fun i=>by rw[ha];exact VF (a:=S6) (b:=TC) (r:=Sn) i
 have ok:NB {jn Bl CT Cv S6 TC Sn with waiting:=ws,marks:=ms,backs:=bs,abo:=ab} Bl.edges (.tup [.int S6,.int TC,Sn]) Bl.forest Bl.edges.length Bl.merged CT (Bl.ab CT).length Cv lk lg (Bl.ab Cv) (Bl.ab CT++Bl.ab Cv):=by
  have a5:=W.merged;refine⟨rfl,rfl,rfl,!Bp hl,by show Cv<(Bl.uab.set Cv CT).length;rw[Ir,W.uab];exact a4,?_,?_,⟨?_,fun l h=>?_,?_⟩,by show(Bl.uab.set Cv CT).length≤_;rw[Ir,W.uab];exact ln hn rfl,?_,?_,?_,?_,?_,?_⟩
  ·show(Bl.lots.set CT ((Bl.lots[CT]?.getD [])++(Bl.lots[Cv]?.getD [])))[CT]? =_;rw[Jv (by rw[W.lots];exact m),a1,a3];rfl
  ·show(Bl.lots.set CT _)[Cv]? =_;rw[H6 (!Bp hl)];exact a3
  ·show(Bl.lots.set CT _).length=(Bl.uab.set Cv CT).length;rw[Ir,Ir,W.lots,W.uab]
  ·refine AY (US h) fun i hi=>?_;change(Bl.lots.set CT _)[i]? =_ at hi;by_cases e:CT=i
   ·subst e;rw[Jv (by rw[W.lots];exact m),a1,a3]at hi;obtain rfl:=Ao hi;have:=W.lone _ _ a1;have:=W.lone _ _ a3;simp;exact BS yp hn (by assumption) this
   ·rw[H6 e]at hi;have:=W.lone _ _ hi;exact ln (AK this hn) rfl
  ·show(Bl.merged++_).length≤_;simp;exact ln (AK a5 hn) rfl
  ·show AH ab CT=_;rw[a2,if_pos rfl]
  ·show AH ab Cv=_;rw[a2,if_neg (!Al kL hl),if_pos rfl]
  ·have:=W.ab_le CT;have:=W.ab_le Cv;simp;exact Al zJ (by assumption) this
  ·show(Bl.edges++_).length≤_;simp;exact ln z rfl
  ·show(Bl.forest++_).length≤_;rw[BJ,W.fr];simp;exact ln (AK a5 hn) rfl
  ·show ab.length≤_;have:=XT nd (n:=Bl.nodes.length) fun x hx=>by
    have:=RM hx;rw[a2]at this;split at this
    ·exact BS sN m (by assumption)
    ·split at this
     ·exact absurd rfl this
     ·exact W.root_lt ((W.abo x).mp this)
   rw[AU]at this;exact ln (AK this hn) rfl
 refine⟨_,.edge (chs:=Bl.changes) rfl ok,⟨?_,fun i=>?_,?_,W.ndA⟩,rfl⟩
 ·show HS.mk _ _ _ _ ((Bl.uab.set Cv CT).set Cv Cv) ((Bl.lots.set CT ((Bl.lots[CT]?.getD [])++(Bl.lots[Cv]?.getD []))).set CT lk) _ _ _ _ _ _ _ _ _ _=HS.mk _ _ _ _ Bl.uab Bl.lots _ _ _ _ _ _ _ _ _ _;have e1:(Bl.uab.set Cv CT).set Cv Cv=Bl.uab:=by
   rw[List.set_set];exact UM fun i=>by
    by_cases h:Cv=i
    ·subst h;rw[Jv (by rw[W.uab];exact a4)];exact T.hg.symm
    ·rw[H6 h]
  have e2:(Bl.lots.set CT ((Bl.lots[CT]?.getD [])++(Bl.lots[Cv]?.getD []))).set CT lk=Bl.lots:=by
   rw[List.set_set];exact UM fun i=>by
    by_cases h:CT=i
    ·subst h;rw[Jv (by rw[W.lots];exact m)];exact a1.symm
    ·rw[H6 h]
  rw[e1,e2];rfl
 ·show AH (Av (Av ab CT ((Bl.ab CT++Bl.ab Cv).take (Bl.ab CT).length)) Cv (Bl.ab Cv)) i=_;have a0:∀j,B9 Bl j→AH Bl.abo j=some (Bl.ab j):=fun j hj=>by
   refine AY (ER.mp ((W.abo j).mpr hj)) fun l hl=>?_;unfold HS.ab;rw[hl];rfl
  rw[Dt,Dt,a2,UO rfl];by_cases h1:i=Cv
  ·subst h1;rw[if_pos rfl];exact(a0 _ T.hg).symm
  ·rw[if_neg h1];by_cases h2:i=CT
   ·subst h2;rw[if_pos rfl];exact(a0 _ T.hk).symm
   ·rw[if_neg h2,if_neg h2,if_neg h1]
 ·show((Av (Av ab CT _) Cv _).map (·.1)).Nodup;exact TI (TI nd)
theorem gu{c k g a b r}:WI c k g a b r:=@zF _ aV _ @s8 (((c,k),g),((a,b),r))
theorem mF(W:WF c){w x:Int}(Q:KH c nd):KU (CM c nd w x) c:=by
 refine .of (by show(c.changes++_).length=_;simp) fun ab ws ms bs ha a1=>?_;have hu:=W.uab;have hn:=Q.n;have WM:=W.mk1 (w:=w) (x:=x) Q;have m:∀j,AH ab j=if j∈Fg c nd then some (c.ab j++[c.nodes.length])else if j=c.nodes.length then some []else AH c.abo j:=fun j=>by rw[ha];exact XU W Q j
 have hf:∀ws ms bs,ss (nd.2.map ({CM c nd w x with waiting:=ws,marks:=ms,backs:=bs,abo:=ab}:HS).find)=Fg c nd:=fun ws ms bs=>by
  show ss (nd.2.map (CM c nd w x).find)=ss (nd.2.map c.find);rw[Dz fun i _=>(J6 W i:(CM c nd w x).find i=_)]
 have a0:AH c.nums nd=none:=by
  cases hq:AH c.nums nd with
  |none=>rfl
  |some i=>
   have:=LO hq;rw[W.nums]at this;exact absurd (List.fst_mem_of_mem_zipIdx this) Q.new
 have hz:ab.length≤1000:=by
  have:=XT a1 (n:=c.nodes.length+1) fun y hy=>by
   have:=RM hy;rw[m]at this;split at this
   ·rename_i h;have:=(My W Q h).2;exact Ga this
   ·split at this
    ·exact Al Zaa (by assumption)
    ·have:=W.root_lt ((W.abo y).mp this);exact Ga this
  rw[AU]at this;exact ln (AK this hn) rfl
 have ok:Wh {CM c nd w x with waiting:=ws,marks:=ms,backs:=bs,abo:=ab} c.nodes.length nd c.nodes c.uab c.lots:=by
  refine⟨rfl,rfl,?_,hu,?_,W.lots,WM.U,⟨?_,WM.wts,WM.dps,by rw[show({CM c nd w x with waiting:=ws,marks:=ms,backs:=bs,abo:=ab}:HS).nums=(CM c nd w x).nums from rfl,WM.nums,Et]⟩,Q.two,Q.lt,?_,fun r hr=>?_,?_,hz⟩
  ·show c.uab++[c.uab.length]=_;rw[hu]
  ·show c.lots++[[c.lots.length]]=_;rw[W.lots]
  ·exact AK WM.n14 (!ld rfl)
  ·show(AH (c.nums++[(nd,c.nodes.length)]) nd).isSome=true;rw[Hw,a0];simp
  ·rw[hf]at hr;refine⟨c.ab r,c.nodes.length,?_,?_⟩
   ·show AH ab r=_;rw[m,if_pos hr]
   ·have:=W.ab_le r;exact ln this rfl
  ·show(AH ab c.nodes.length).isSome=true;rw[m,if_neg (fun h=>by have:=(My W Q h).2;exact A6 ej this),if_pos rfl];rfl
 refine⟨_,.made (chs:=c.changes) rfl ok,⟨?_,fun i=>?_,?_,W.ndA⟩,rfl⟩
 ·show HS.mk (c.nodes++[nd]).dropLast (BP (c.nums++[(nd,c.nodes.length)]) nd) (c.wts++[_]).dropLast (c.dps++[_]).dropLast _ _ _ _ _ _ _ _ _ _ _ c.nodes.length=HS.mk c.nodes c.nums c.wts c.dps _ _ _ _ _ _ _ _ _ _ _ c.made;rw[j9,j9,j9,fL a0,W.made];rfl
 ·show AH (BP ((ss (nd.2.map ({CM c nd w x with waiting:=ws,marks:=ms,backs:=bs,abo:=ab,changes:=c.changes}:HS).find)).foldl C3 ab) c.nodes.length) i=_;rw[show ss (nd.2.map ({CM c nd w x with waiting:=ws,marks:=ms,backs:=bs,abo:=ab,changes:=c.changes}:HS).find)=Fg c nd from hf ws ms bs,Ry,lh (Y5 _),m];by_cases h1:i=c.nodes.length
  ·subst h1;rw[if_pos rfl,W.abo_top]
  ·rw[if_neg h1];by_cases h2:i∈Fg c nd
   ·rw[if_pos h2,if_pos h2];refine AY (ER.mp ((W.abo i).mpr (My W Q h2).1)) fun l hl=>?_;unfold HS.ab;rw[hl];simp
   ·rw[if_neg h2,if_neg h2,if_neg h1]
 ·show((BP _ _).map (·.1)).Nodup;exact(Yz.map _).nodup (ZO (fun ab k n=>TI n) a1)
inductive Dw(c0:HS):Nat→HS→Prop
 |refl {c:HS}:C1 c c0→Dw c0 0 c
 |step {m:Nat} {c d:HS}:Dw c0 m d→KU c d→Dw c0 (m+1) c
theorem Dw.same(s:Dw c0 m c)(x:C1 d c):Dw c0 m d:=by
 cases s with
 |refl h=>exact .refl (x.trans h)
 |step h u=>exact .step h ⟨by rw[x.eq];exact u.len,fun n y=>u.und n (y.trans x)⟩
theorem Dw.base(s:Dw c0 m c)(x:C1 c0 n):Dw n m c:=by
 induction s with
 |refl h=>exact .refl (h.trans x)
 |step _ u ih=>exact .step ih u
theorem Dw.trans(s:Dw c0 m c1)(t:Dw c1 n c):Dw c0 (m+n) c:=by
 induction t with
 |refl h=>exact s.same h
 |step _ u ih=>exact .step ih u
theorem Dw.len(s:Dw c0 m c):c.changes.length=c0.changes.length+m:=by
 induction s with
 |refl h=>rw[h.eq];rfl
 |step _ u n=>rw[u.len,n];rfl
theorem Dw.pop{c0:HS}{m:Nat}(s:Dw c0 m c)(z:c.changes.length≤1000){ms:List (Nat×List Nat)}:∃J,PC c0.changes.length J∧(∀c',C1 c' c→c'.marks=ms→J m c')∧∀c',J 0 c'→C1 c' c0∧c'.marks=ms:=by
 refine⟨fun j c'=>c0.changes.length+j≤1000∧∃d,Dw c0 j d∧C1 c' d∧c'.marks=ms,⟨fun j c' a1=>LM a1 fun h1 d h2 h3 zz=>?_,fun j c' a0=>LM a0 fun h1 d h2 h3 h4=>?_⟩,fun c' x e=>⟨by rw[←s.len];exact z,c,s,x,e⟩,fun c' n=>LM n fun zz d h2 h3 h4=>?_⟩
 ·have:c'.changes.length=c0.changes.length+j:=(h2.same h3).len;exact⟨this,!AK (Ac this) h1⟩
 ·cases h2 with
  |step t u=>
   refine B3 (u.und c' h3) fun d2 k1 k2 k3=>?_;exact⟨d2,k1,Cy h1,_,t,k2,k3.trans h4⟩
 ·cases h2 with
  |refl x=>exact⟨h3.trans x,h4⟩
end
section
variable {c d:HS} {ns nodes:List Nd} {ts T U V:List (Nat×Nat)}
theorem Di.imp(h:∀i j,E i j→F i j):∀{xs ys:List Nat},Di E xs ys→Di F xs ys
 :=fun q=>by induction q with|nil=>exact .nil|cons a _ m=>exact .cons (h _ _ a) m
theorem Di.swap(h:∀i j,E i j→E j i):∀{xs ys:List Nat},Di E xs ys→Di E ys xs
 :=fun q=>by induction q with|nil=>exact .nil|cons a _ m=>exact .cons (h _ _ a) m
theorem Di.tr(h:∀i j k,E i j→E j k→E i k)(a:Di E xs ys):Di E ys m→Di E xs m:=
 @Di.rec E (fun xs ys n=>∀{m},Di E ys m→Di E xs m) (fun b=>by cases b;exact .nil) (fun p n ih n b=>by cases b with|cons q b=>exact .cons (h _ _ _ p q) (ih b)) xs ys a m
theorem tP:∀{xs:List Nat},(∀k∈xs,E (f k) k)→Di E (xs.map f) xs:=by
 intro xs
 induction xs with
 |nil=>
  intro _;exact .nil
 |cons x xs m=>
  intro h;exact .cons (h x (.head _)) (m fun k n=>h k (.tail _ n))
theorem CC.snoc(h:CC nodes T i j):CC (nodes++[nd]) T i j:=fun E C=>h E ⟨C.refl,C.symm,C.trans,C.told,fun i j m n e1 e2=>C.cong i j m n (by rw[Es (BY.mp e1).1];exact e1) (by rw[Es (BY.mp e2).1];exact e2)⟩
theorem CC.tell{p:Nat×Nat}{i j:Nat}(h:CC nodes T i j):CC nodes (T++[p]) i j:=h.more fun q m=>.inl (Jo _ m)
theorem CC.eq(e1:nodes[i]? =some m)(e2:nodes[j]? =some n)(o:m.1=n.1)(k:Di (CC nodes T) m.2 n.2):CC nodes T i j:=fun E C=>C.cong i j m n e1 e2 o (k.imp fun i j h=>h E C)
structure Sem(c:HS)(T U:List (Nat×Nat)):Prop where
 sound:∀i<c.nodes.length,CC c.nodes T (c.find i) i
 told:∀p∈U,c.find p.1=c.find p.2
 known:∀k m,AH c.known k=some m→∃nd,c.nodes[m]? =some nd∧k.1=nd.1∧Di (CC c.nodes T) k.2 nd.2
 users:∀n nd,c.nodes[n]? =some nd→∀k∈nd.2,n∈c.ab (c.find k)
def Kw(c:HS)(X:Nat→Prop):Prop:=∀n<c.nodes.length,n∈c.waiting∨X n∨∃m,AH c.known (c.canon n)=some m∧c.find m=c.find n
theorem Sem.tell{p:Nat×Nat}(S:Sem c T U):Sem c (T++[p]) U:=
 ⟨fun i n=>(S.sound i n).tell,S.told,fun k m h=>by refine B3 (S.known k m h) fun nd a b x=>?_;exact⟨nd,a,b,x.imp fun i j h=>h.tell⟩,S.users⟩
theorem Sem.jn(W:WF c)(S:Sem c T U)(X:LK c k g)(h:CC c.nodes T k g)(hV:∀p∈V,c.find p.1=c.find p.2∨((c.find p.1=k∨c.find p.1=g)∧(c.find p.2=k∨c.find p.2=g))):Sem (jn c k g a b r) T V:=by
 have hl:=X.lt;refine⟨fun i hi=>?_,fun p hp=>?_,S.known,fun n nd hn j hj=>?_⟩
 ·rw[Ky W.U X];have:=S.sound i hi;split
  ·rename_i e;rw[e]at this;exact h.trans this
  ·exact this
 ·rw[Ky W.U X,Ky W.U X];rcases hV p hp with e|⟨e1,m⟩
  ·rw[e]
  ·rcases e1 with e1|e1<;>rcases m with m|m<;>rw[e1,m]<;>simp
 ·have:=S.users n nd hn j hj;rw[Ky W.U X,OE];by_cases e:c.find j=g
  ·rw[if_pos e,if_pos rfl];rw[e]at this;exact Ek _ this
  ·rw[if_neg e,if_neg e];split
   ·rename_i e';rw[e']at this;exact Jo _ this
   ·exact this
theorem Qm(h:n<c.nodes.length):c.nodes[n]? =some (c.nd n):=by
 unfold HS.nd;rw[Dy h];rfl
theorem Kw.jn(W:WF c)(S:Sem c T U)(X:LK c k g)
  (h:∀n<c.nodes.length,n∈c.waiting∨Y n∨∃m,AH c.known (c.canon n)=some m∧(c.find m=c.find n∨((c.find m=k∨c.find m=g)∧(c.find n=k∨c.find n=g)))):Kw (jn c k g a b r) Y:=by
 intro n hn;have hn:n<c.nodes.length:=hn;by_cases e:∃j∈(c.nd n).2,c.find j=g
 ·refine AI e fun j hj e=>?_;have:=S.users n _ (Qm hn) j hj;rw[e]at this;exact .inl (Ek _ this)
 ·have ec:(Internal.jn c k g a b r).canon n=c.canon n:=by
   unfold HS.canon;show((c.nd n).1,(c.nd n).2.map _)=_;rw[Dz fun i hi=>by rw[Ky W.U X,if_neg fun q=>e ⟨i,hi,q⟩]]
  rcases h n hn with h|h|⟨m,h1,h2⟩
  ·exact .inl (Jo _ h)
  ·exact .inr (.inl h)
  ·refine .inr (.inr ⟨m,by rw[ec];exact h1,?_⟩);rw[Ky W.U X,Ky W.U X];rcases h2 with e|⟨e1,e2⟩
   ·rw[e]
   ·rcases e1 with e1|e1<;>rcases e2 with e2|e2<;>rw[e1,e2]<;>simp
structure Inv(c:HS)(ns:List Nd)(ts:List (Nat×Nat)):Prop where
 wf:WF c
 nds:c.nodes=ns
 kw:c.known.length+c.waiting.length≤c.nodes.length+28*c.merged.length
 eb:c.edges.length≤c.merged.length+ts.length
 wl:∀n∈c.waiting,n<c.nodes.length
 tin:∀p∈ts,p.1<c.nodes.length∧p.2<c.nodes.length
 S:Sem c ts ts
 comp:Kw c fun zz=>False
theorem Inv.sane(I:Inv c ns ts)(z:ts.length≤40):D0 c:=I.wf.sane I.kw (by have:=I.eb;have:=I.wf.merged;have:=I.wf.n14;exact Cf vk z (by assumption) (by assumption) this)
theorem Inv.same(I:Inv c ns ts)(x:C1 d c)(h:d.waiting=c.waiting):Inv d ns ts:=by
 have a0:=x.ab;have W:=I.wf.same x;have key:∀m b a,WF (LH c c.waiting m b a)→(∀i,(LH c c.waiting m b a).ab i=c.ab i)→Inv (LH c c.waiting m b a) ns ts:=fun m b a W a0=>
  ⟨W,I.nds,I.kw,I.eb,I.wl,I.tin,⟨I.S.sound,I.S.told,I.S.known,fun n nd hn k hk=>by rw[a0];exact I.S.users n nd hn k hk⟩,I.comp⟩
 have e:d=LH c c.waiting d.marks d.backs d.abo:=by rw[←h];exact x.eq
 exact(congrArg (Inv · ns ts) e).mpr (key _ _ _ ((congrArg WF e).mp W) fun i=>(congrArg (fun z:HS=>z.ab i) e).symm.trans (a0 i))
theorem Inv.cc(I:Inv c ns ts)(h:c.waiting=[])(hi:i<ns.length)(hj:j<ns.length):c.find i=c.find j↔CC ns ts i j:=by
 have en:=I.nds;subst en;constructor
 ·intro e;have a:=I.S.sound i hi;have b:=I.S.sound j hj;rw[e]at a;exact a.symm.trans b
 ·intro q;refine q (fun i j=>c.find i=c.find j) ⟨fun zz=>rfl,fun zz zz e=>e.symm,fun zz zz zz a b=>a.trans b,I.S.told,fun i j m n e1 e2 o k=>?_⟩;have hc:∀i m,c.nodes[i]? =some m→∃y,AH c.known (m.1,m.2.map c.find)=some y∧c.find y=c.find i:=fun i m e=>by
   have:=I.comp i (BY.mp e).1;rw[h]at this;rcases this with f|f|⟨y,f1,f2⟩
   ·cases f
   ·exact f.elim
   ·refine⟨y,?_,f2⟩;rw[show c.canon i=(m.1,m.2.map c.find) by unfold HS.canon HS.nd;rw[e];rfl]at f1;exact f1
  refine AI (hc i m e1) fun y y1 y2=>?_;refine AI (hc j n e2) fun z z1 z2=>?_;rw[o,fV k,z1]at y1;obtain rfl:=Ao y1;exact y2.symm.trans z2
def To(c c':HS):Prop:=c'.marks=c.marks∧∃m,Dw c m c'
theorem To.refl(n:(c.abo.map (·.1)).Nodup):To c c:=⟨rfl,0,.refl (.refl n)⟩
theorem To.trans(x:To c c1)(y:To c1 c2):To c c2:=by
 refine GG x fun a m s=>?_;refine GG y fun b n t=>?_;exact⟨b.trans a,m+n,s.trans t⟩
theorem To.one(n:(c.abo.map (·.1)).Nodup)(u:KU m c)(h:m.marks=c.marks):To c m:=⟨h,1,.step (.refl (.refl n)) u⟩
theorem Inv.tell{a b:Nat}{r:AV}(I:Inv c ns ts)(ha:a<c.nodes.length)(hb:b<c.nodes.length)(hr:HB (.tup [.int a,.int b,r]))(z:ts.length≤40):Inv (c.join a b r) ns (ts++[(a,b)])∧To c (c.join a b r):=by
 have W:=I.wf;have hm:=W.merged;have hn:=W.n14;have he:=I.eb;have a2:=I.kw;have a1:∀p∈ts++[(a,b)],p.1<c.nodes.length∧p.2<c.nodes.length:=fun p hp=>by
  rcases CE.mp hp with h|h
  ·exact I.tin p h
  ·rw[Ap.mp h];exact⟨ha,hb⟩
 by_cases h:c.find a=c.find b
 ·rw[wb h];refine⟨⟨W.lj1 hr,I.nds,I.kw,?_,I.wl,a1,?_,I.comp⟩,.one W.ndA (zZ W.ndA (!Cf gC z hm hn he)) rfl⟩
  ·show(c.edges++_).length≤c.merged.length+(ts++_).length;rw[BJ,BJ,DD,DD];exact BS Zad he
  ·have S:=I.S.tell (p:=(a,b));refine⟨S.sound,fun p hp=>?_,S.known,S.users⟩;rcases CE.mp hp with q|q
   ·exact S.told p q
   ·rw[Ap.mp q];exact h
 ·rw[Y2 h];have X:=W.two ha hb h;have S:=I.S.tell (p:=(a,b));have kg:(min (c.find a) (c.find b)=c.find a∧max (c.find a) (c.find b)=c.find b)∨(min (c.find a) (c.find b)=c.find b∧max (c.find a) (c.find b)=c.find a):=by exact db
  have a0:CC c.nodes (ts++[(a,b)]) (c.find a) (c.find b):=(S.sound a ha).trans (CC.trans (fun E C=>C.told (a,b) (by simp)) (S.sound b hb).symm);generalize min (c.find a) (c.find b)=k at*;generalize max (c.find a) (c.find b)=g at*;refine⟨⟨W.jn1 X hr,I.nds,?_,?_,fun n h=>?_,a1,S.jn W X ?_ fun p hp=>?_,Kw.jn W S X fun n hn=>?_⟩,.one W.ndA (gu W X (!Cf gC z hm hn he)) rfl⟩
  ·show c.known.length+(c.waiting++c.ab g).length≤c.nodes.length+28*(c.merged++_).length;have:=W.ab_le g;rw[BJ,BJ,DD];exact Hi vz a2 this
  ·show(c.edges++_).length≤(c.merged++_).length+(ts++_).length;simp only[BJ,DD];exact BS rE he
  ·rcases CE.mp h with h|h
   ·exact I.wl n h
   ·exact W.abl _ n h
  ·rcases kg with⟨e1,e2⟩|⟨e1,e2⟩<;>rw[e1,e2]
   ·exact a0
   ·exact a0.symm
  ·rcases CE.mp hp with q|q
   ·exact .inl (S.told p q)
   ·rw[Ap.mp q];refine .inr ?_;rcases kg with⟨e1,e2⟩|⟨e1,e2⟩<;>rw[e1,e2]<;>simp
  ·rcases I.comp n hn with h|h|⟨m,h1,h2⟩
   ·exact .inl h
   ·exact h.elim
   ·exact .inr (.inr ⟨m,h1,.inl h2⟩)
variable {nd:Nd} {w x:Int}
theorem t9(h:AH c.known (c.canon n)=some m)(ne:n≠c.made):c.lookAt n=if c.find m=c.find n then c else c.join m n HS.likeR:=by
 have e:c.note n=c:=by simp only[HS.note,if_neg ne,h,Qd,if_true]
 show(c.note n).look n=_;rw[e];simp only[HS.look,h,Qd,if_true,j8];by_cases q:c.find m=c.find n
 ·rw[if_neg (fun f=>f q),if_pos q]
 ·rw[if_pos q,if_neg q]
theorem Zca(h:AH c.known (c.canon n)=none)(m:n≠c.made):c.lookAt n=kn c n:=by
 have e:c.note n={c with changes:=c.changes++[.known (c.canon n)]}:=by simp only[HS.note,if_neg m,h,Yy,HU,if_false]
 show(c.note n).look n=_;rw[e];have h':AH ({c with changes:=c.changes++[.known (c.canon n)]}:HS).known (({c with changes:=c.changes++[.known (c.canon n)]}:HS).canon n)=none:=h;generalize hd:({c with changes:=c.changes++[.known (c.canon n)]}:HS)=d at*;simp only[HS.look,h',Yy,HU,if_false,Option.getD_none];rw[if_neg (fun f=>f rfl)];subst hd;rfl
theorem w6(h:c.made=c.nodes.length):(Fd c nd w x).lookAt c.nodes.length=(CM c nd w x).lookAt c.nodes.length:=by
 have e:(Fd c nd w x).note c.nodes.length=(CM c nd w x).note c.nodes.length:=by
  unfold HS.note;rw[if_pos (show c.nodes.length=(Fd c nd w x).made from h.symm),if_neg (show ¬c.nodes.length=(CM c nd w x).made from Bp (Nv _))];rfl
 show HS.look _ _=HS.look _ _;rw[e]
def mu(c:HS):Nat:=29*(c.nodes.length-c.merged.length)+c.waiting.length
theorem uX(a b:Nat):HB (.tup [.int a,.int b,HS.likeR]):=⟨a,b,["like"],rfl,fun r m=>by rw[Ap.mp m];decide+kernel⟩
theorem aF{n:Nat}(W:WF c)(kw:c.known.length+c.waiting.length+1≤c.nodes.length+28*c.merged.length)(eb:c.edges.length≤c.merged.length+ts.length)(wl:∀n∈c.waiting,n<c.nodes.length)
  (a1:∀p∈ts,p.1<c.nodes.length∧p.2<c.nodes.length)(S:Sem c ts ts)(C:Kw c (· =n))(hn:n<c.nodes.length)(z:ts.length≤40):Inv (c.lookAt n) c.nodes ts∧To c (c.lookAt n)∧mu (c.lookAt n)≤mu c:=by
 have ne:n≠c.made:=by rw[W.made];exact Bp hn
 have a8:=W.merged;have a5:=W.n14;have a6:=(W.kid n _ (Qm hn)).2;have a2:Di (CC c.nodes ts) ((c.nd n).2.map c.find) (c.nd n).2:=tP fun k hk=>S.sound k (by have:=a6 k hk;exact AK this (Cy hn));cases q:AH c.known (c.canon n)with
 |none=>
  rw[Zca q ne];refine⟨⟨W.kn1 hn,rfl,?_,eb,wl,a1,⟨S.sound,S.told,fun k m h=>?_,S.users⟩,fun i hi=>?_⟩,.one W.ndA (pi W.ndA q (!Cf pU kw a8 a5)) rfl,A9 _⟩
  ·show(c.known++_).length+c.waiting.length≤c.nodes.length+28*c.merged.length;rw[BJ,DD];exact Cf qA kw
  ·change AH (c.known++_) k=_ at h;rw[Hw]at h;cases hk:AH c.known k with
   |some y=>rw[hk]at h;cases h;exact S.known k _ hk
   |none=>
    rw[hk]at h;split at h
    ·rename_i e;obtain rfl:=Ao h;subst e;exact⟨c.nd n,Qm hn,rfl,a2⟩
    ·exact As h
  ·rcases C i hi with h|rfl|⟨m,h1,h2⟩
   ·exact .inl h
   ·refine .inr (.inr ⟨i,?_,rfl⟩);show AH (c.known++[(c.canon i,i)]) (c.canon i)=_;rw[Hw,q,if_pos rfl];rfl
   ·refine .inr (.inr ⟨m,?_,h2⟩);show AH (c.known++[(c.canon n,n)]) (c.canon i)=_;rw[Hw,h1];rfl
 |some m=>
  rw[t9 q ne];have hm:=W.kn _ _ q;by_cases e:c.find m=c.find n
  ·rw[if_pos e];refine⟨⟨W,rfl,!Cy kw,eb,wl,a1,S,fun i hi=>?_⟩,.refl W.ndA,A9 _⟩;rcases C i hi with h|rfl|h
   ·exact .inl h
   ·exact .inr (.inr ⟨m,q,e⟩)
   ·exact .inr (.inr h)
  ·rw[if_neg e,Y2 e];refine B3 (S.known _ _ q) fun nd e1 e2 e3=>?_;have e3:Di (CC c.nodes ts) ((c.nd n).2.map c.find) nd.2:=e3;have a7:CC c.nodes ts m n:=CC.eq e1 (Qm hn) e2.symm ((e3.swap fun _ _ h=>h.symm).tr (fun _ _ _ h h'=>h.trans h') a2);have X:=W.two hm hn e;have kg:(min (c.find m) (c.find n)=c.find m∧max (c.find m) (c.find n)=c.find n)∨(min (c.find m) (c.find n)=c.find n∧max (c.find m) (c.find n)=c.find m):=by exact db
   have a4:CC c.nodes ts (c.find m) (c.find n):=(S.sound m hm).trans (a7.trans (S.sound n hn).symm);generalize min (c.find m) (c.find n)=k at*;generalize max (c.find m) (c.find n)=g at*;have WJ:=W.jn1 (a:=m) (b:=n) X (uX m n);have a0:=W.ab_le g;have a3:c.merged.length+1≤c.nodes.length:=by
    have:=WJ.merged;change(c.merged++_).length≤c.nodes.length at this;rw[BJ]at this;exact this
   refine⟨⟨WJ,rfl,?_,?_,fun i h=>?_,a1,S.jn W X ?_ fun p hp=>.inl (S.told p hp),Kw.jn W S X fun i hi=>?_⟩,.one W.ndA (gu W X (!Cf mf eb z a5 a3)) rfl,?_⟩
   ·show c.known.length+(c.waiting++c.ab g).length≤c.nodes.length+28*(c.merged++_).length;rw[BJ,BJ,DD];exact Hi xN kw a0
   ·show(c.edges++_).length≤(c.merged++_).length+ts.length;simp only[BJ,DD];exact BS wc eb
   ·rcases CE.mp h with h|h
    ·exact wl i h
    ·exact W.abl _ i h
   ·rcases kg with⟨e1,e2⟩|⟨e1,e2⟩<;>rw[e1,e2]
    ·exact a4
    ·exact a4.symm
   ·rcases C i hi with h|rfl|⟨y,h1,h2⟩
    ·exact .inl h
    ·refine .inr (.inr ⟨m,q,.inr ?_⟩);rcases kg with⟨e1,e2⟩|⟨e1,e2⟩<;>rw[e1,e2]<;>simp
    ·exact .inr (.inr ⟨y,h1,.inl h2⟩)
   ·show 29*(c.nodes.length-(c.merged++_).length)+(c.waiting++c.ab g).length≤29*(c.nodes.length-c.merged.length)+c.waiting.length;rw[BJ,BJ,DD];exact ub a0 a3
theorem eT(n:(c.abo.map (·.1)).Nodup)(m:List Nat):C1 (Ec c m) c:=⟨rfl,fun zz=>rfl,n,n⟩
theorem iS{c0:HS}(z:ts.length≤40):Oo (fun c=>Inv c ns ts∧To c0 c) mu:=by
 refine⟨fun c I=>I.1.sane z,fun c m n a1 hw=>AL a1 fun I t=>?_⟩;have W:=I.wf;have x:=eT W.ndA m;have hn:n<c.nodes.length:=I.wl n (by rw[hw];simp);have a0:=I.kw;rw[hw,BJ,DD]at a0;refine BN (aF (c:=Ec c m) (n:=n) (ts:=ts) (W.same x) (by show c.known.length+m.length+1≤c.nodes.length+28*c.merged.length;exact Cf q8 a0) I.eb (fun i hi=>I.wl i (by rw[hw];exact Jo _ hi)) I.tin ⟨I.S.sound,I.S.told,I.S.known,I.S.users⟩ (fun i hi=>by
  rcases I.comp i hi with h|h|h
  ·rw[hw]at h;rcases CE.mp h with h|h
   ·exact .inl h
   ·exact .inr (.inl (Ap.mp h))
  ·exact h.elim
  ·exact .inr (.inr h)) hn z) fun h1 h2 h3=>?_
 have en:=I.nds;refine⟨hn,⟨en▸h1,t.trans (To.trans (show To c (Ec c m)from⟨rfl,0,.refl x⟩) h2)⟩,?_⟩;have:mu (Ec c m)+1=mu c:=by
  show 29*(c.nodes.length-c.merged.length)+m.length+1=29*(c.nodes.length-c.merged.length)+c.waiting.length;rw[hw,BJ,DD];exact nh
 exact AK (CG h3) (Ac this)
theorem Inv.add(I:Inv c ns ts)(Q:KH c nd)(z:ts.length≤40):Inv ((Fd c nd w x).lookAt c.nodes.length) (ns++[nd]) ts∧To c ((Fd c nd w x).lookAt c.nodes.length):=by
 have W:=I.wf;rw[w6 W.made];have WM:=W.mk1 (w:=w) (x:=x) Q;have hN:(CM c nd w x).nodes.length=c.nodes.length+1:=by show(c.nodes++[nd]).length=_;simp
 have a1:=I.kw;have S:=I.S;have hq:∀i<c.nodes.length,(CM c nd w x).nd i=c.nd i:=fun i hi=>by
  unfold HS.nd;show((c.nodes++[nd])[i]?).getD _=_;rw[Es hi]
 have hS:Sem (CM c nd w x) ts ts:=by
  refine⟨fun i hi=>?_,fun p hp=>?_,fun k m h=>?_,fun n m hn k hk=>?_⟩
  ·rw[J6 W];by_cases e:i=c.nodes.length
   ·subst e;have:c.find c.nodes.length=c.nodes.length:=Pg (by rw[W.uab];exact A9 _);rw[this];exact .refl _
   ·exact(S.sound i (!BS cT hN hi e)).snoc
  ·rw[J6 W,J6 W];exact S.told p hp
  ·refine B3 (S.known k m h) fun a0 a b y=>?_;exact⟨a0,by show(c.nodes++[nd])[m]? =_;rw[Es (BY.mp a).1];exact a,b,y.imp fun i j h=>h.snoc⟩
  ·rw[J6 W,SE W Q];rcases RQ hn with h|⟨rfl,rfl⟩
   ·have:=S.users n m h.2 k hk;split
    ·exact Jo _ this
    ·exact this
   ·rw[if_pos (Mb.mpr (Zg3 hk))];simp
 have hC:Kw (CM c nd w x) (· =c.nodes.length):=fun i hi=>by
  by_cases e:i=c.nodes.length
  ·exact .inr (.inl e)
  ·have hi:i<c.nodes.length:=by exact BS cT hN hi e
   rcases I.comp i hi with h|h|⟨m,h1,h2⟩
   ·exact .inl h
   ·exact h.elim
   ·refine .inr (.inr ⟨m,?_,by rw[J6 W,J6 W];exact h2⟩);show AH c.known ((CM c nd w x).canon i)=_;have:(CM c nd w x).canon i=c.canon i:=by
     unfold HS.canon;rw[hq i hi,Dz fun j zz=>(J6 W j:(CM c nd w x).find j=_)]
    rw[this];exact h1
 refine BN (aF (c:=CM c nd w x) (n:=c.nodes.length) (ts:=ts) WM (by rw[hN];show c.known.length+c.waiting.length+1≤c.nodes.length+1+28*c.merged.length;exact Cf wD a1) I.eb (fun i hi=>by rw[hN];have:=I.wl i hi;exact Al tu this) (fun p hp=>by rw[hN];have:=I.tin p hp;exact BS uB this) hS hC (by rw[hN];exact A6 qr) z) fun h1 h2 zz=>?_;have en:=I.nds;refine⟨?_,(To.one W.ndA (mF W Q) rfl).trans h2⟩;rw[←en];exact h1
theorem Inv.zero:Inv hs0 [] []:=by
 have no:∀{i:Nat}{α:Type}{l:α},([]:List α)[i]? =some l→False:=fun h=>by simp at h
 refine⟨⟨by decide,rfl,rfl,rfl,rfl,rfl,.nil,by simp,fun n nd h=>(no h).elim,⟨fun i x h=>(no h).elim,by decide⟩,.nil,fun k=>⟨fun h=>absurd rfl h,fun h=>(no h).elim⟩,A9 _,fun i n h=>(nomatch h),fun k n h=>(nomatch h),rfl,rfl,rfl,A9 _,fun i l h=>(no h).elim,by simp,rfl⟩,rfl,by decide,by decide,by exact⋯,by exact⋯,⟨fun i hi=>absurd hi (Lq _),by exact⋯,fun k m h=>(nomatch h),fun n nd h=>(no h).elim⟩,fun i hi=>absurd hi (Lq _)⟩
end
section
variable {c d:HS} {ns nodes:List Nd} {ts T U V:List (Nat×Nat)} {nd:Nd} {lv:List C9} {k:Nat}
inductive GP:List C9→HS→Prop
 |nil {c:HS}:c.marks=[]→GP [] c
 |snoc {lv:List C9} {ns:List Nd} {ts:List (Nat×Nat)} {c0 c:HS} {m:Nat}:Inv c0 ns ts→GP lv c0→c.marks=c0.marks++[(c0.changes.length,c0.waiting)]→Dw c0 m c→GP (lv++[(ns,ts)]) c
theorem GP.to(r:GP lv c)(t:To c d):GP lv d:=by
 refine GG t fun a n s=>?_;cases r with
 |nil h=>exact .nil (a.trans h)
 |snoc I r h m=>exact .snoc I r (a.trans h) (m.trans s)
theorem GP.len(r:GP lv c):c.marks.length=lv.length:=by
 induction r with
 |nil h=>rw[h];rfl
 |snoc I r h s m=>rw[h,BJ,BJ,m];rfl
theorem GP.ops(r:GP lv c):∀e∈lv,∀nd∈e.1,Cx nd.1:=by
 induction r with
 |nil h=>intro e m;cases m
 |snoc I r h s ih=>
  intro e m;rcases CE.mp m with m|m
  ·exact ih e m
  ·rw[Ap.mp m];intro nd n;exact I.wf.ops nd (by rw[I.nds];exact n)
theorem GP.last(r:GP lv c):∀(l:List C9)(e:C9),lv=l++[e]→∃c0 m,Inv c0 e.1 e.2∧GP l c0∧c.marks=c0.marks++[(c0.changes.length,c0.waiting)]∧Dw c0 m c:=by
 intro l e q;cases r with
 |nil h=>simp at q
 |@snoc lv ns ts c0 _ m I r h s=>
  refine AL (List.append_inj' q rfl) fun q1 n=>?_;subst q1;obtain⟨rfl,_⟩:=jO n;exact⟨c0,m,I,r,h,s⟩
theorem Inv.ch(I:Inv c ns ts)(z:ts.length≤40):c.changes.length≤800:=(I.sane z).z2
structure GC(c:HS)(ns:List Nd)(ts:List (Nat×Nat))(lv:List C9)(k:Nat):Prop where
 I:Inv c ns ts
 r:GP lv c
 zn:ns.length+k≤14
 zt:ts.length+k≤14
 zl:lv.length+k≤14
 ze:∀e∈lv,e.1.length+k≤14∧e.2.length+k≤14
theorem GC.less(h:k'≤k)(Z:GC c ns ts lv k):GC c ns ts lv k':=
 ⟨Z.I,Z.r,by have:=Z.zn;exact BS XA h this,by have:=Z.zt;exact BS XA h this,by have:=Z.zl;exact BS XA h this,fun e m=>by have:=Z.ze e m;exact Cf xm h this⟩
theorem GC.to(Z:GC c ns ts lv k)(I:Inv d ns ts)(t:To c d):GC d ns ts lv k:=⟨I,Z.r.to t,Z.zn,Z.zt,Z.zl,Z.ze⟩
theorem iZ{c0:HS}{m:Nat}(z:c.changes.length≤1000)(h:c.marks=c0.marks++[(c0.changes.length,c0.waiting)])(s:Dw c0 m c)(hm:c.marks.length≤1000)(n0:(c.abo.map (·.1)).Nodup):
  ∃many J ms n m,PC many J∧c.marks=ms++[(many,n)]∧c.marks.length≤1000∧J m {c with marks:=ms,backs:=c.backs+1}∧∀c',J 0 c'→C1 (Ec c' n) c0∧(Ec c' n).waiting=c0.waiting∧(Ec c' n).marks=c0.marks:=by
 refine B3 (s.pop z (ms:=c0.marks)) fun J h1 h2 h3=>?_;refine⟨_,J,c0.marks,c0.waiting,m,h1,h,hm,h2 _ ⟨rfl,fun zz=>rfl,n0,n0⟩ rfl,fun c' hc=>?_⟩;refine AL (h3 c' hc) fun x e=>?_;exact⟨(eT x.ndc _).trans x,rfl,e⟩
theorem tF(x:C1 d c)(h:d.waiting=c.waiting)(m:d.marks=c.marks):I9 d=I9 c:=by
 revert h m;refine x.elim (P:=fun d=>d.waiting=c.waiting→d.marks=c.marks→I9 d=I9 c) fun ab ws ms n ha zz h m=>?_;change ws=c.waiting at h;change ms=c.marks at m;subst h m;have e:(fun a=>Hb (Internal.ss (HS.ab {c with waiting:=c.waiting,marks:=c.marks,backs:=n,abo:=ab} a)))=fun a=>Hb (Internal.ss (c.ab a)):=funext fun a=>by
  unfold HS.ab;show Hb (Internal.ss ((AH ab a).getD []))=_;rw[ha]
 unfold I9;rw[e];rfl
theorem Inv.told(I:Inv c ns ts):∀(m:List (Nat×Nat)),(∀p∈m,p.1<c.nodes.length∧p.2<c.nodes.length)→ts.length+m.length≤40→Inv (Internal.told c m GA) ns (ts++m)∧To c (Internal.told c m GA):=by
 intro m
 induction h:m.length generalizing m with
 |zero=>
  intro _ _;rw[j5.mp h,T8];exact⟨I,.refl I.wf.ndA⟩
 |succ n ih=>
  obtain⟨as,a,rfl⟩:∃as a,m=as++[a]:=by
   rcases UP m with rfl|⟨x,y,e⟩
   ·cases h
   ·exact⟨x,y,by rw[e,UQ]⟩
  intro hp z;rw[BJ,DD]at h;refine AL (ih as (!Al v5 h) (fun p q=>hp p (Jo _ q)) (!Al rX z)) fun I1 t1=>?_;rw[cY];have en:(Internal.told c as GA).nodes.length=c.nodes.length:=by rw[I1.nds,I.nds]
  refine AL (I1.tell (a:=a.1) (b:=a.2) (r:=GA) (by rw[en];exact(hp a (by simp)).1) (by rw[en];exact(hp a (by simp)).2) ⟨a.1,a.2,["told","trial"],rfl,fun r hr=>by
   rcases A7.mp hr with rfl|hr
   ·decide+kernel
   ·rw[Ap.mp hr];decide+kernel⟩ (by rw[BJ];exact BS ut h z)) fun I2 t2=>?_
  refine⟨?_,t1.trans t2⟩;rw[←Yr];exact I2
theorem dZ(n:(c.abo.map (·.1)).Nodup):C1 (E0 c) c:=⟨rfl,fun m=>rfl,n,n⟩
theorem GC.asks(Z:GC c ns ts lv k)(b0:0<ns.length):∃By ph,Ff By ns ts ph∧By c∧∀c',By c'→GC c' ns ts lv k:=by
 have zt:=Z.zt;have zl:=Z.zl;have zn:=Z.zn;have ml:=Z.r.len;have n:∀d,C1 d c∧d.waiting=c.waiting∧d.marks=c.marks→Inv d ns ts:=fun d a1=>BN a1 fun x h zz=>Z.I.same x h;refine⟨fun d=>C1 d c∧d.waiting=c.waiting∧d.marks=c.marks,I9 c,⟨fun d g=>(n d g).nds,fun d g=>tF g.1 g.2.1 g.2.2,fun d g=>(n d g).sane (!Al Se zt),fun d g=>(n d g).wf.pl,fun d g=>?_,!Al Zas zn,b0,?_,?_,!Al Zb9 zt,fun d g x hx=>?_,fun d g ps a8 zp=>?_⟩,⟨.refl Z.I.wf.ndA,rfl,rfl⟩,fun d g=>Z.to (n d g) ⟨g.2.2,0,.refl g.1⟩⟩
 ·rw[g.2.2,ml];exact Al Zb zl
 ·have:=Z.I.wf.dup;rw[Z.I.nds]at this;exact this
 ·have:=Z.I.tin;rw[Z.I.nds]at this;exact this
 ·have I:=n d g;have:=I.S.sound x (by rw[I.nds];exact hx);rw[I.nds]at this;exact this
 ·have I:=n d g;have W:=I.wf;have en:=I.nds;have S:=I.sane (!Al Se zt);have hu:=W.uab;have a9:=W.n14;have x:=dZ W.ndA;have IP:Inv (E0 d) ns ts:=I.same x rfl;have a0:∀p∈ps,p.1<d.nodes.length∧p.2<d.nodes.length:=by rw[en];exact a8
  refine AL (IP.told ps a0 (!BS o9 zt zp)) fun IT tT=>?_;refine⟨fun c'=>(Inv c' ns (ts++ps)∧To (E0 d) c')∧c'.waiting=[],⟨hu,AK S.z2 (!ld rfl),AK S.z5 (!ld rfl),by rw[g.2.2,ml];exact Al Zb zl,!ln a9 rfl,!ln zp rfl,fun p hp=>by rw[hu];exact a0 p hp,fun j hj=>?_,⟨_,mu,iS (by rw[BJ];exact BS o9 zt zp),⟨IT,tT⟩,fun c' h w=>⟨h,w⟩⟩,fun c' a2=>AL a2 fun a7 w=>BN a7 fun I' m' a5=>AY a5 fun j s=>?_⟩,fun c' a3=>AL a3 fun a4 w=>AL a4 fun I' zz=>⟨I'.wf.U,by rw[I'.wf.uab,I'.nds,hu,en],fun i j hi hj=>I'.cc w hi hj⟩⟩
  ·have a6:(ps.take j).length≤8:=by rw[N8];exact oU zp
   refine AL (IP.told (ps.take j) (fun p hp=>a0 p (Zg2 hp)) (!BS o9 zt a6)) fun I2 zz=>?_;exact I2.sane (by rw[BJ];exact BS o9 zt a6)
  ·have s':=s.base x;have h1:c'.marks=d.marks++[(d.changes.length,d.waiting)]:=m';refine KT (iZ (c:=c') (c0:=d) (AK (I'.ch (by rw[BJ];exact BS o9 zt zp)) (!CZ cu)) h1 s' (by rw[h1,BJ,g.2.2,ml];simp;exact Al y8 zl) I'.wf.ndA) fun many J ms ws m k1 k2 k3 k4 k5=>?_;refine⟨many,J,ms,ws,m,k1,k2,k3,k4,fun b1 hc=>?_⟩;refine BN (k5 b1 hc) fun y1 y2 y3=>?_;exact⟨y1.trans g.1,y2.trans g.2.1,y3.trans g.2.2⟩
theorem GC.addOk(Z:GC c ns ts lv (k+1)):OF c:=by
 have W:=Z.I.wf;have zt:=Z.zt;have zn:=Z.zn;have en:=Z.I.nds;have S:=Z.I.sane (!Al OR zt);refine⟨S,fun i h=>?_,fun nd i=>?_,W.ops,by have:=W.n14;exact ln this rfl,fun nd w x o h2 hk hn=>?_⟩
 ·rw[W.uab];exact W.root_lt ((W.abo i).mp h)
 ·rw[W.nums];constructor
  ·intro h;have:=LO h;rw[Zg4]at this;exact this
  ·intro h;refine VX ?_ ?_
   ·rw[List.zipIdx_map_fst];exact W.dup
   ·rw[Zg4];exact h
 ·have Q:KH c nd:=⟨o,h2,hk,hn,by rw[en];exact Al ZZ zn⟩;have a0:=Z.I.kw;have SM:D0 (CM c nd w x):=(W.mk1 Q).sane (by
   have hN:(CM c nd w x).nodes.length=c.nodes.length+1:=by show(c.nodes++[nd]).length=_;simp
   rw[hN];show c.known.length+c.waiting.length≤c.nodes.length+1+28*c.merged.length;exact Cf lM a0) (by
   have:=Z.I.eb;have:=W.merged;have:=W.n14;show c.edges.length≤100;exact Hi Zaq zt (by assumption) (by assumption) this)
  exact⟨SM.U,⟨SM.O.len,SM.O.sz,SM.O.m⟩,⟨SM.B.n,SM.B.w,SM.B.d,SM.B.m⟩,SM.nl,SM.kids,SM.abo,SM.kn,SM.z1,S.z2,SM.z3,SM.z4,SM.z5,SM.z6⟩
theorem Za1:GL GC where
 init:=⟨.zero,.nil rfl,by decide,by decide,by decide,fun e he=>(nomatch he)⟩
 nds:=fun Z=>⟨Z.I.nds,by have:=Z.I.wf.ops;rw[Z.I.nds]at this;exact this,Z.r.ops,by have:=Z.zl;exact Al Za2 this,Z.r.len⟩
 add:=fun{c ns ts lv k} Z=>⟨Z.addOk,fun nd c' o h2 hk h=>by
  have en:=Z.I.nds;have zn:=Z.zn;have n:=Z.zt;rcases h with⟨h,rfl⟩|⟨h,w,x,rfl⟩
  ·rw[en]at h;show GC _ (if _ then _ else _) _ _ _;rw[if_pos h];exact Z.less (!G1 _)
  ·have Q:KH c nd:=⟨o,h2,by rw[en];exact hk,h,by rw[en];exact Al ZZ zn⟩;refine AL (Z.I.add (w:=w) (x:=x) Q (!Al OR n)) fun I t=>?_;rw[en]at h;show GC _ (if _ then _ else _) _ _ _;rw[if_neg h];exact⟨I,Z.r.to t,by rw[BJ,DD];exact Al Wg zn,!Al o5 n,by have:=Z.zl;exact Al o5 this,fun e he=>by have:=Z.ze e he;exact BS Wa this⟩⟩
 settle:=fun{c ns ts lv k} Z=>by
  have n:=Z.zt;exact⟨_,mu,iS (c0:=c) (!Al Se n),⟨Z.I,.refl Z.I.wf.ndA⟩,fun c' h zz=>Z.to h.1 h.2⟩
 push:=fun{c ns ts lv k} Z=>by
  have n:=Z.zt;have zn:=Z.zn;have S:=Z.I.sane (!Al OR n);have x:=dZ Z.I.wf.ndA;refine⟨AK S.z2 (!ld rfl),AK S.z5 (!ld rfl),Z.I.same x rfl,.snoc Z.I Z.r rfl (.refl x),!Al o5 zn,!Al o5 n,by rw[BJ,DD];have:=Z.zl;exact Al Wg this,fun e he=>?_⟩;rcases CE.mp he with h|h
  ·have:=Z.ze e h;exact BS Wa this
  ·rw[Ap.mp h];exact⟨by show ns.length+k≤14;exact Al o5 zn,by show ts.length+k≤14;exact Al o5 n⟩
 pop:=fun{c ns ts lv e k} Z=>by
  have n:=Z.zt;have zl:=Z.zl;have S:=Z.I.sane (!Al Se n);refine B0 (Z.r.last lv e rfl) fun c0 m a1=>Bv a1 fun I0 r0 hm s=>?_;refine KT (iZ (AK S.z2 (!CZ cu)) hm s (by rw[Z.r.len];exact Al zv zl) Z.I.wf.ndA) fun many J ms ws m k1 k2 k3 k4 k5=>?_;refine⟨many,J,ms,ws,m,k1,k2,k3,k4,fun c' hc=>?_⟩;refine BN (k5 c' hc) fun y1 y2 y3=>?_;have ze:=Z.ze e (by simp);rw[BJ,DD]at zl;exact⟨I0.same y1 y2,r0.to ⟨y3,0,.refl y1⟩,ze.1,ze.2,!Al mR zl,fun f hf=>Z.ze f (Jo _ hf)⟩
 tell:=fun{c ns ts lv k a b} Z ha hb=>by
  have n:=Z.zt;have zn:=Z.zn;have en:=Z.I.nds;refine AL (Z.I.tell (a:=a) (b:=b) (r:=dg) (by rw[en];exact ha) (by rw[en];exact hb) ⟨a,b,["told","t"],rfl,fun r hr=>by
   rcases A7.mp hr with rfl|hr
   ·decide+kernel
   ·rw[Ap.mp hr];decide+kernel⟩ (!Al OR n)) fun I t=>?_
  exact⟨Z.I.sane (!Al OR n),I,Z.r.to t,!Al o5 zn,by rw[BJ,DD];exact Al Wg n,by have:=Z.zl;exact Al o5 this,fun e he=>by have:=Z.ze e he;exact BS Wa this⟩
 asks:=fun Z a0=>Z.asks a0
 less:=fun Z=>Z.less (!G1 _)
 fin:=fun Z w a0=>⟨Z.I.wf.U,by rw[Z.I.wf.uab,Z.I.nds],fun i j hi hj=>Z.I.cc w hi hj⟩
end
theorem tU(w:AD):Co (KK w) Bk "law"=some (some (.ref 567)):=∅
theorem l8:Ah callerA 16:=⟨by decide+kernel,by decide+kernel,rfl⟩
theorem ly(ds:List WData):PySem.Challenge.rw_pq0016_01.row.claim.post ds (.bool true) ds=true:=by
 show(kA [] (.bool true) .bool&&WTm.holds [] (.eq .res (.lit (.bool true))) {args:=ds,res:=some (.bool true),after:=ds})=true;have h1:kA [] (.bool true) .bool=true:=by first|rfl|simp[kA,WShape.arms]
 have h2:same (.bool true) (.bool true)=true:=by first|rfl|simp[same]
 rw[h1];unfold WTm.holds;simp[WTm.value,h2]
theorem tN:OV (w,hb):=fun s₀ s₁ mg mb p loose fa a vs is m T KX a1 hg hL hI hz=>by
 have m:s₁.heap=hb:=m;have B:Aj:=⟨m▸KX,_,_,_,_,m▸T⟩;have e:some (Ft fa)=some (.ref 567):=a1.symm.trans (mg_of (m▸B.K) T.g (tU w));obtain rfl:=Tu (Ao e);refine AT (w5 B l8 rfl Za1 (σ:=fun n=>none) ⟨⟨vs,m▸hL,hI⟩,!ln hz rfl⟩ (Φ:=fun v n=>v=.bool true) (fun n=>rfl) s₁ [.ref a] ⟨fun b o q=>by rw[m];exact q,fun a x e=>(nomatch e)⟩ (.cons (.ref a) .nil)) (fun v s' a0=>BG a0 fun av σ' r g t e=>?_) fun n n e=>e.elim;subst e;obtain rfl:=QC r;exact⟨.inl ⟨_,.bool true,[],rfl,fun n=>rfl,.bool true,ly _,fun n=>⟨.nil,fun n h=>nomatch h⟩⟩,.of_keep (m▸g.base),t.os,.of_eq (t.gens.trans hg)⟩
end Internal
set_option maxHeartbeats 8000000 in
theorem PySem.Challenge.cw_pq0016_01_holds : PySem.Challenge.rw_pq0016_01.Holds :=
 hd (by
 intro w s₀ s₁ mg mb G Y fa o pm cd doc dV kV ho hd' hcd hD hmg hg args vals as hpre hlay hrd hwl hlo;have KX:=kIn_of Y;clear ho hd' hcd hD Y
 wrow_args hpre hlay hrd hwl hlo
 rename_i hL _ _ _ hI _ hz _;exact Internal.qg Internal.tN (w,s₁.heap) s₀ s₁ _ _ _ _ _ _ _ _ rfl (topRead_of G.T) KX hmg hg hL hI (by omega))
